import PyProof.Rows.All
import Wide.All
import OpenK.AllK
import Wide.FinOn
import KE.KStateDown
import HandS.ForMost
import HandS.Exc
import HandS.HeadHook2
import HandS.TupAny
import HandS.TupMul
import HandS.Deep
import HandS.Wide
import HandS.Style
import HandS.TupLe
import HandS.Flow
import HandS.Defaults
import HandS.MakeKw
import HandS.MakeKwOnly
import HandS.DictComp
import HandS.IsInst
import KE.KExcIs
import HandS.Ends
import HandS.HeadEnd
import HandS.Head2
import HandS.FStr
import HandS.Text
import HandS.Iter
import KE.GoesMore
import HandS.RaiseMore
import HandS.ExcInit
import HandS.ExcField
import HandS.ExcIs
import HandS.TryMany
import HandS.ExcOwn
import HandS.Small
import HandS.ExcSuper
import PyProof.P3Eq
import KE.KExcPX
import HandS.OwnEq
import HandS.More
import HandS.Dict
import HandS.DictEq
import PyProof.DictFindH
import PyProof.TupleKey
import HandS.TupLen
import HandS.Conv
import HandS.NoneIn
import HandS.Zip
import KE.GoesZip
import KE.GoesEnum
import KE.KUnpackStar
import HandS.Finally
import PyProof.DictUpdate
import HandS.Sort
import PyProof.ReprBulk
import KE.KDictPairs
import KE.KDictKeyed
import HandS.SortRule
import HandS.ListItems
import HandS.DictTup
import HandS.DeepEq
import PySem.Challenge.RW_callvows_k76_codes_exchanged
set_option Elab.async false
set_option linter.all false
set_option maxRecDepth 100000
set_option maxHeartbeats 0
namespace Vz
open PySem L2
/-- a plain value: tuples stand within it, what may change is a number of an object -/
inductive AV where
  | non | bl (b : Bool) | int (i : Int) | str (s : Str)
  | tup (xs : List AV)
  | con (xs : List AV)
  | lk (xs : List AV)
  | ls (xs : List AV)
  | iv (c : Str) (ns : List Str) (xs : List AV)
  | id (ks : List Key) (xs : List AV)
  | it (ks : List (List Key)) (xs : List AV)
  | xv (c : Str) (ns : List Str) (xs : List AV)
  | ref (n : Nat)
  deriving Inhabited
/-- an object -/
inductive AO where
  | lst (xs : List AV)
  | dk (kvs : List (Key × AV))
  | dt (kvs : List (List Key × AV))
  | ins (c : Str) (fs : List (Str × AV))
  | xd (fs : List (Str × AV))
  | gone
  deriving Inhabited
abbrev Hs := List AO
/-- what an exception bears: its fields' names and values -/
abbrev XP := List Str × List AV
abbrev En := List (Option AV)
inductive R (α : Type) where
  | ok (a : α) (G : Hs) | exc (c : Str) (d : XP) (G : Hs) | stuck
/-- a statement's end -/
inductive SR where
  | nx (ρ : En) (G : Hs) | rt (v : AV) (G : Hs) | bk (ρ : En) (G : Hs) | ct (ρ : En) (G : Hs) | exc (c : Str) (d : XP) (ρ : En) (G : Hs) | stuck
/-- the address of a global of the module -/
abbrev ga (K : PySem.W.Frag) (x : Str) : Addr := He.ga K x
/-- a tuple that the text itself holds -/
def KTup (K : PySem.W.Frag) (a : Addr) (xs : List V) : Prop :=
  ∃ (o : Obj) (its : Array Value) (n : Nat), K.lookup a = some o ∧ o.cls = .type "tuple" ∧ o.data = .seq its n ∧ its.size ≤ sizeLine ∧ Vals xs its.toList
/-- the numbered ones; a number may have gone -/
abbrev Mu := List (Option Addr)
/-- a is what n numbers, if n still numbers -/
def Num (μ : Mu) (n : Nat) (a : Addr) : Prop := n < μ.length ∧ ∀ a', μ[n]? = some (some a') → a' = a
/-- a list that is not numbered -/
def LsF (H : Hp) (μ : Mu) (a : Addr) (xs : List V) : Prop := H a = some (.lst xs) ∧ some a ∉ μ
/-- a list that nobody writes: the script -/
def KLst (K : PySem.W.Frag) (H : Hp) (a : Addr) (xs : List V) : Prop := (∃ o, H a = some (.frz o (.lst xs))) ∨
  ∃ (o : Obj) (its : Array Value) (n : Nat), K.lookup a = some o ∧ o.cls = .type "list" ∧ o.dict = none ∧ o.data = .seq its n ∧ its.size ≤ sizeLine ∧ Vals xs its.toList
/-- at e: an exception of the class C, its dict at d -/
def xo (e : Addr) (C : Value) (d : Option Addr) : HO := .ext fun h => ∃ (oe : Obj) (vs : Array Value), h.get? e = some oe ∧ Zc C d oe ∧ oe.data = .fields vs
mutual
inductive RA (K : PySem.W.Frag) (H : Hp) (μ : Mu) : AV → V → Prop where
  | non : RA K H μ .non .non
  | bl (b : Bool) : RA K H μ (.bl b) (.bl b)
  | int (i : Int) : RA K H μ (.int i) (.int i)
  | str (s : Str) : RA K H μ (.str s) (.str s)
  | tup {a : Addr} {vs : List V} {xs : List AV} : H a = some (.tup vs) → RAs K H μ xs vs → RA K H μ (.tup xs) (.ref a)
  | con {a : Addr} {vs : List V} {xs : List AV} : KTup K a vs → RAs K H μ xs vs → RA K H μ (.con xs) (.ref a)
  | lk {a : Addr} {vs : List V} {xs : List AV} : KLst K H a vs → RAs K H μ xs vs → RA K H μ (.lk xs) (.ref a)
  | ls {a : Addr} {vs : List V} {xs : List AV} : LsF H μ a vs → RAs K H μ xs vs → RA K H μ (.ls xs) (.ref a)
  | iv {a dx : Addr} {c : Str} {ns : List Str} {gs : List (Str × V)} {xs : List AV} : H a = some (.ins (ga K c) dx gs) → some a ∉ μ → ns = gs.map (·.1) → RAs K H μ xs (gs.map (·.2)) → RA K H μ (.iv c ns xs) (.ref a)
  | id {a : Addr} {ks : List Key} {ws : List (Key × V)} {xs : List AV} : H a = some (.dK ws) → some a ∉ μ → ks = ws.map (·.1) → RAs K H μ xs (ws.map (·.2)) → RA K H μ (.id ks xs) (.ref a)
  | it {a : Addr} {ks : List (List Key)} {ws : List (List Key × V)} {xs : List AV} : H a = some (.dT ws) → some a ∉ μ → ks = ws.map (·.1) → RAs K H μ xs (ws.map (·.2)) → RA K H μ (.it ks xs) (.ref a)
  | xv0 {a : Addr} {c : Str} : H a = some (xo a (.ref (ga K c)) none) → some a ∉ μ → RA K H μ (.xv c [] []) (.ref a)
  | xv {a dx : Addr} {c : Str} {ns : List Str} {gs : List (Str × V)} {xs : List AV} : H a = some (xo a (.ref (ga K c)) (some dx)) → some a ∉ μ → H dx = some (.xd gs) → some dx ∉ μ → ns = gs.map (·.1) → RAs K H μ xs (gs.map (·.2)) → RA K H μ (.xv c ns xs) (.ref a)
  | ref {n : Nat} {a : Addr} : Num μ n a → RA K H μ (.ref n) (.ref a)
inductive RAs (K : PySem.W.Frag) (H : Hp) (μ : Mu) : List AV → List V → Prop where
  | nil : RAs K H μ [] []
  | cons {x : AV} {v : V} {xs : List AV} {vs : List V} : RA K H μ x v → RAs K H μ xs vs → RAs K H μ (x :: xs) (v :: vs)
end
/-- what was a tuple, or is not numbered, stays so; what is numbered keeps its number, or loses it -/
structure Gr (H : Hp) (μ : Mu) (H' : Hp) (μ' : Mu) : Prop where
  le : μ.length ≤ μ'.length
  pre : ∀ (n : Nat) (a : Addr), n < μ.length → μ'[n]? = some (some a) → μ[n]? = some (some a)
  fre : ∀ (n : Nat) (a : Addr), μ.length ≤ n → μ'[n]? = some (some a) → H a = none
  keep : ∀ a u, H a = some u → some a ∉ μ → H' a = some u
  tup : ∀ a vs, H a = some (.tup vs) → H' a = some (.tup vs)
  frz : ∀ a o u, H a = some (.frz o u) → H' a = some (.frz o u)
  ex : ∀ a, H' a = none → H a = none
theorem Gr.refl (H : Hp) (μ : Mu) : Gr H μ H μ := ⟨Nat.le_refl _, fun _ _ _ h => h, fun n a h e => (by rw [List.getElem?_eq_none h] at e; cases e), fun _ _ h _ => h, fun _ _ h => h, fun _ _ _ h => h, fun _ h => h⟩
theorem Gr.fr {H H' : Hp} {μ μ' : Mu} (g : Gr H μ H' μ') {a : Addr} {u : HO} (h : H a = some u) (n : some a ∉ μ) : some a ∉ μ' := fun m => by
  obtain ⟨k, hk⟩ := List.mem_iff_getElem?.mp m
  by_cases l : k < μ.length
  · exact n (List.mem_of_getElem? (g.pre k a l hk))
  · have := g.fre k a (by omega) hk
    rw [h] at this
    cases this
theorem Gr.trans {H H1 H2 : Hp} {μ μ1 μ2 : Mu} (a : Gr H μ H1 μ1) (b : Gr H1 μ1 H2 μ2) : Gr H μ H2 μ2 where
  le := Nat.le_trans a.le b.le
  pre := fun n p l e => a.pre n p l (b.pre n p (Nat.lt_of_lt_of_le l a.le) e)
  fre := fun n p l e => by
    by_cases h : n < μ1.length
    · exact a.fre n p l (b.pre n p h e)
    · exact a.ex p (b.fre n p (by omega) e)
  keep := fun p u h n => b.keep p u (a.keep p u h n) (a.fr h n)
  tup := fun p vs h => b.tup p vs (a.tup p vs h)
  frz := fun p o u h => b.frz p o u (a.frz p o u h)
  ex := fun p h => a.ex p (b.ex p h)
theorem Num.gr {H H' : Hp} {μ μ' : Mu} (g : Gr H μ H' μ') {n : Nat} {a : Addr} (h : Num μ n a) : Num μ' n a := ⟨Nat.lt_of_lt_of_le h.1 g.le, fun a' e => h.2 a' (g.pre n a' h.1 e)⟩
theorem KLst.gr {K : PySem.W.Frag} {H H' : Hp} {μ μ' : Mu} (g : Gr H μ H' μ') {a : Addr} {xs : List V} (h : KLst K H a xs) : KLst K H' a xs := by
  rcases h with ⟨o, h⟩ | h
  · exact .inl ⟨o, g.frz _ _ _ h⟩
  · exact .inr h
theorem LsF.gr {H H' : Hp} {μ μ' : Mu} (g : Gr H μ H' μ') {a : Addr} {xs : List V} (h : LsF H μ a xs) : LsF H' μ' a xs := ⟨g.keep _ _ h.1 h.2, g.fr h.1 h.2⟩
theorem LsF.sq {K : PySem.W.Frag} {H : Hp} {μ : Mu} {a : Addr} {xs : List V} (h : LsF H μ a xs) : SqL K H a xs := .inl (.inl h.1)
theorem KLst.sq {K : PySem.W.Frag} {H : Hp} {a : Addr} {xs : List V} (h : KLst K H a xs) : SqL K H a xs := by
  rcases h with ⟨o, h⟩ | h
  · exact .inl (.inr ⟨o, h⟩)
  · exact .inr h
theorem KTup.sq {K : PySem.W.Frag} {H : Hp} {a : Addr} {xs : List V} (h : KTup K a xs) : SqT K H a xs := .inr h
mutual
theorem RA.gr {K : PySem.W.Frag} {H H' : Hp} {μ μ' : Mu} (g : Gr H μ H' μ') : ∀ {x : AV} {v : V}, RA K H μ x v → RA K H' μ' x v
  | _, _, .non => .non
  | _, _, .bl b => .bl b
  | _, _, .int b => .int b
  | _, _, .str b => .str b
  | _, _, .tup h r => .tup (g.tup _ _ h) (RAs.gr g r)
  | _, _, .con h r => .con h (RAs.gr g r)
  | _, _, .lk h r => .lk (h.gr g) (RAs.gr g r)
  | _, _, .ls h r => .ls (h.gr g) (RAs.gr g r)
  | _, _, .iv h n e r => .iv (g.keep _ _ h n) (g.fr h n) e (RAs.gr g r)
  | _, _, .id h n e r => .id (g.keep _ _ h n) (g.fr h n) e (RAs.gr g r)
  | _, _, .it h n e r => .it (g.keep _ _ h n) (g.fr h n) e (RAs.gr g r)
  | _, _, .xv0 h n => .xv0 (g.keep _ _ h n) (g.fr h n)
  | _, _, .xv h n h2 n2 e r => .xv (g.keep _ _ h n) (g.fr h n) (g.keep _ _ h2 n2) (g.fr h2 n2) e (RAs.gr g r)
  | _, _, .ref h => .ref (h.gr g)
theorem RAs.gr {K : PySem.W.Frag} {H H' : Hp} {μ μ' : Mu} (g : Gr H μ H' μ') : ∀ {xs : List AV} {vs : List V}, RAs K H μ xs vs → RAs K H' μ' xs vs
  | _, _, .nil => .nil
  | _, _, .cons r rs => .cons (RA.gr g r) (RAs.gr g rs)
end
section
variable {K : PySem.W.Frag} {H H' : Hp} {μ μ' : Mu}
theorem RAs.length : ∀ {xs : List AV} {vs : List V}, RAs K H μ xs vs → xs.length = vs.length
  | _, _, .nil => rfl
  | _, _, .cons _ r => congrArg Nat.succ r.length
theorem RAs.get : ∀ {xs : List AV} {vs : List V} {i : Nat} {v : V}, RAs K H μ xs vs → vs[i]? = some v → ∃ x, xs[i]? = some x ∧ RA K H μ x v
  | _, _, _, _, .nil, e => by simp at e
  | _, _, 0, _, .cons r _, e => by simp at e; subst e; exact ⟨_, rfl, r⟩
  | _, _, i + 1, v, .cons _ t, e => by
    obtain ⟨x, h1, h2⟩ := RAs.get (i := i) (v := v) t (by simpa using e)
    exact ⟨x, by simpa using h1, h2⟩
theorem RAs.get' : ∀ {xs : List AV} {vs : List V} {i : Nat} {x : AV}, RAs K H μ xs vs → xs[i]? = some x → ∃ v, vs[i]? = some v ∧ RA K H μ x v
  | _, _, _, _, .nil, e => by simp at e
  | _, _, 0, _, .cons r _, e => by simp at e; subst e; exact ⟨_, rfl, r⟩
  | _, _, i + 1, v, .cons _ t, e => by
    obtain ⟨x, h1, h2⟩ := RAs.get' (i := i) (x := v) t (by simpa using e)
    exact ⟨x, by simpa using h1, h2⟩
theorem RAs.app : ∀ {xs ys : List AV} {vs ws : List V}, RAs K H μ xs vs → RAs K H μ ys ws → RAs K H μ (xs ++ ys) (vs ++ ws)
  | _, _, _, _, .nil, s => s
  | _, _, _, _, .cons r t, s => .cons r (RAs.app t s)
theorem RAs.take : ∀ {xs : List AV} {vs : List V} (n : Nat), RAs K H μ xs vs → RAs K H μ (xs.take n) (vs.take n)
  | _, _, 0, _ => .nil
  | _, _, _ + 1, .nil => .nil
  | _, _, n + 1, .cons r t => .cons r (RAs.take n t)
theorem RAs.drop : ∀ {xs : List AV} {vs : List V} (n : Nat), RAs K H μ xs vs → RAs K H μ (xs.drop n) (vs.drop n)
  | _, _, 0, r => r
  | _, _, _ + 1, .nil => .nil
  | _, _, n + 1, .cons _ t => RAs.drop n t
theorem RAs.set {x : AV} {v : V} (r : RA K H μ x v) : ∀ {xs : List AV} {vs : List V} (i : Nat), RAs K H μ xs vs → RAs K H μ (xs.set i x) (vs.set i v)
  | _, _, _, .nil => .nil
  | _, _, 0, .cons _ t => .cons r t
  | _, _, i + 1, .cons q t => .cons q (RAs.set r i t)
theorem RAs.rev {xs : List AV} {vs : List V} (h : RAs K H μ xs vs) : RAs K H μ xs.reverse vs.reverse := by
  induction h using RAs.rec (motive_1 := fun _ _ _ => True) with
  | nil => exact .nil
  | cons r t _ ih =>
    rw [List.reverse_cons, List.reverse_cons]
    exact ih.app (.cons r .nil)
  | _ => trivial
theorem RAs.erase : ∀ {xs : List AV} {vs : List V} (i : Nat), RAs K H μ xs vs → RAs K H μ (xs.eraseIdx i) (vs.eraseIdx i)
  | _, _, _, .nil => .nil
  | _, _, 0, .cons _ t => t
  | _, _, i + 1, .cons q t => .cons q (RAs.erase i t)
/-- named values -/
def RF (K : PySem.W.Frag) (H : Hp) (μ : Mu) {κ : Type} (fs : List (κ × AV)) (gs : List (κ × V)) : Prop := fs.map (·.1) = gs.map (·.1) ∧ RAs K H μ (fs.map (·.2)) (gs.map (·.2))
theorem RF.gr {κ : Type} {fs : List (κ × AV)} {gs : List (κ × V)} (g : Gr H μ H' μ') (h : RF K H μ fs gs) : RF K H' μ' fs gs := ⟨h.1, h.2.gr g⟩
/-- an object as it stands -/
def RO (K : PySem.W.Frag) (H : Hp) (μ : Mu) (a : Addr) : AO → Prop
  | .lst xs => ∃ vs, H a = some (.lst vs) ∧ RAs K H μ xs vs
  | .dk kvs => ∃ ws, H a = some (.dK ws) ∧ RF K H μ kvs ws
  | .dt kvs => ∃ ws, H a = some (.dT ws) ∧ RF K H μ kvs ws
  | .ins c fs => ∃ dx gs, H a = some (.ins (ga K c) dx gs) ∧ RF K H μ fs gs
  | .xd fs => ∃ gs, H a = some (.xd gs) ∧ RF K H μ fs gs
  | .gone => True
/-- the objects as they stand -/
structure RH (K : PySem.W.Frag) (H : Hp) (μ : Mu) (G : Hs) : Prop where
  len : μ.length = G.length
  nd : ∀ (n m : Nat) (a : Addr), μ[n]? = some (some a) → μ[m]? = some (some a) → n = m
  of : ∀ (n : Nat) (a : Addr) (o : AO), μ[n]? = some (some a) → G[n]? = some o → o ≠ AO.gone ∧ RO K H μ a o
  no : ∀ n : Nat, μ[n]? = some none → G[n]? = some AO.gone
theorem RO.gr {o : AO} {a : Addr} (g : Gr H μ H' μ') (e : H' a = H a) (h : RO K H μ a o) : RO K H' μ' a o := by
  cases o with
  | lst xs => obtain ⟨vs, h1, h2⟩ := h; exact ⟨vs, e.trans h1, h2.gr g⟩
  | dk xs => obtain ⟨vs, h1, h2⟩ := h; exact ⟨vs, e.trans h1, h2.gr g⟩
  | dt xs => obtain ⟨vs, h1, h2⟩ := h; exact ⟨vs, e.trans h1, h2.gr g⟩
  | ins c fs => obtain ⟨dx, gs, h1, h2⟩ := h; exact ⟨dx, gs, e.trans h1, h2.gr g⟩
  | xd fs => obtain ⟨gs, h1, h2⟩ := h; exact ⟨gs, e.trans h1, h2.gr g⟩
  | gone => trivial
theorem RO.there {o : AO} {a : Addr} (h : RO K H μ a o) (l : o ≠ .gone) : ∃ u, H a = some u ∧ (∀ vs, u ≠ .tup vs) ∧ (∀ o v, u ≠ .frz o v) := by
  cases o with
  | lst xs => obtain ⟨vs, h1, _⟩ := h; exact ⟨_, h1, fun _ z => (by cases z), fun _ _ z => (by cases z)⟩
  | dk xs => obtain ⟨vs, h1, _⟩ := h; exact ⟨_, h1, fun _ z => (by cases z), fun _ _ z => (by cases z)⟩
  | dt xs => obtain ⟨vs, h1, _⟩ := h; exact ⟨_, h1, fun _ z => (by cases z), fun _ _ z => (by cases z)⟩
  | ins c fs => obtain ⟨dx, gs, h1, _⟩ := h; exact ⟨_, h1, fun _ z => (by cases z), fun _ _ z => (by cases z)⟩
  | xd fs => obtain ⟨gs, h1, _⟩ := h; exact ⟨_, h1, fun _ z => (by cases z), fun _ _ z => (by cases z)⟩
  | gone => exact absurd rfl l
/-- a number with an object: it numbers -/
theorem RH.live {G : Hs} (h : RH K H μ G) {n : Nat} {o : AO} (e : G[n]? = some o) (l : o ≠ .gone) : ∃ a, μ[n]? = some (some a) ∧ RO K H μ a o := by
  have hn : n < μ.length := by
    rw [h.len]
    exact (List.getElem?_eq_some_iff.mp e).1
  have q : μ[n]? = some μ[n] := List.getElem?_eq_getElem hn
  cases k : μ[n] with
  | none =>
    rw [k] at q
    rw [h.no n q] at e
    exact absurd (Option.some.inj e).symm l
  | some a =>
    rw [k] at q
    exact ⟨a, q, (h.of n a o q e).2⟩
theorem RH.num {G : Hs} (h : RH K H μ G) {n : Nat} {a : Addr} (q : μ[n]? = some (some a)) : Num μ n a := ⟨(List.getElem?_eq_some_iff.mp q).1, fun a' e => by rw [q] at e; cases e; rfl⟩
theorem RH.at_ {G : Hs} (h : RH K H μ G) (n : Nat) (a : Addr) (o : AO) (e : Num μ n a) (q : G[n]? = some o) : RO K H μ a o := by
  by_cases l : o = .gone
  · subst l; trivial
  · obtain ⟨a', e1, r⟩ := h.live q l
    rw [← e.2 a' e1]
    exact r
/-- as it is numbered -/
theorem RH.lv {G : Hs} (h : RH K H μ G) {n : Nat} {a : Addr} {o : AO} (e : Num μ n a) (q : G[n]? = some o) (l : o ≠ .gone) : μ[n]? = some (some a) := by
  obtain ⟨a', e1, r⟩ := h.live q l
  rw [← e.2 a' e1]
  exact e1
theorem RH.obj {G : Hs} (h : RH K H μ G) {n : Nat} {a : Addr} (e : Num μ n a) : ∃ o, G[n]? = some o ∧ RO K H μ a o := by
  have hn : n < G.length := by
    rw [← h.len]
    exact e.1
  exact ⟨G[n], List.getElem?_eq_getElem hn, h.at_ n a _ e (List.getElem?_eq_getElem hn)⟩
theorem RH.mem {G : Hs} (h : RH K H μ G) {a : Addr} (e : some a ∈ μ) : ∃ u, H a = some u ∧ (∀ vs, u ≠ .tup vs) ∧ (∀ o v, u ≠ .frz o v) := by
  obtain ⟨n, hn⟩ := List.mem_iff_getElem?.mp e
  have l : n < G.length := by
    rw [← h.len]
    exact (List.getElem?_eq_some_iff.mp hn).1
  obtain ⟨l1, r⟩ := h.of n a _ hn (List.getElem?_eq_getElem l)
  exact r.there l1
theorem RH.nmem {G : Hs} (h : RH K H μ G) {p : Addr} (hp : H p = none) : some p ∉ μ := fun z => by
  obtain ⟨u, hu, _⟩ := h.mem z
  rw [hp] at hu
  cases hu
/-- something new that the numbers do not tell -/
theorem upd_ex {p a : Addr} {ho : HO} (h : upd H p ho a = none) : H a = none := by
  by_cases z : a = p
  · subst z; rw [upd_same] at h; cases h
  · rw [upd_ne z] at h; exact h
theorem Gr.new {p : Addr} {ho : HO} (hp : H p = none) : Gr H μ (upd H p ho) μ :=
  ⟨Nat.le_refl _, fun _ _ _ e => e, fun n a l e => (by rw [List.getElem?_eq_none l] at e; cases e), fun b u e _ => (by rw [upd_ne (ne_of_none e hp)]; exact e), fun b vs e => (by rw [upd_ne (ne_of_none e hp)]; exact e), fun b o u e => (by rw [upd_ne (ne_of_none e hp)]; exact e), fun a => upd_ex⟩
theorem RH.new {G : Hs} (h : RH K H μ G) {p : Addr} {ho : HO} (hp : H p = none) : RH K (upd H p ho) μ G := by
  refine ⟨h.len, h.nd, fun n a o e1 e2 => ?_, h.no⟩
  obtain ⟨l, r⟩ := h.of n a o e1 e2
  obtain ⟨u, hu, _⟩ := r.there l
  exact ⟨l, r.gr (Gr.new hp) (upd_ne (ne_of_none hu hp))⟩
/-- a new numbered object -/
theorem Gr.alloc {p : Addr} {ho : HO} (hp : H p = none) : Gr H μ (upd H p ho) (μ ++ [some p]) :=
  ⟨by simp, fun n a l e => (by rw [List.getElem?_append_left l] at e; exact e), fun n a l e => (by
    rw [List.getElem?_append_right l] at e
    cases k : n - μ.length with
    | zero => rw [k] at e; simp at e; rw [← e]; exact hp
    | succ m => rw [k] at e; simp at e), (Gr.new (μ := μ) hp).keep, (Gr.new (μ := μ) hp).tup, (Gr.new (μ := μ) hp).frz, (Gr.new (μ := μ) hp).ex⟩
theorem get_app1 {α : Type} {l : List α} {x y : α} {n : Nat} (e : (l ++ [x])[n]? = some y) : l[n]? = some y ∨ (n = l.length ∧ y = x) := by
  by_cases h : n < l.length
  · rw [List.getElem?_append_left h] at e
    exact .inl e
  · rw [List.getElem?_append_right (by omega)] at e
    cases k : n - l.length with
    | zero => rw [k] at e; simp at e; exact .inr ⟨by omega, e.symm⟩
    | succ m => rw [k] at e; simp at e
theorem RH.alloc {G : Hs} (h : RH K H μ G) {p : Addr} {ho : HO} {o : AO} (hp : H p = none) (r : RO K (upd H p ho) (μ ++ [some p]) p o) (l : o ≠ .gone := by intro h; cases h) : RH K (upd H p ho) (μ ++ [some p]) (G ++ [o]) := by
  have hpm := h.nmem hp
  have hpn : ∀ n, μ[n]? ≠ some (some p) := fun n e => hpm (List.mem_of_getElem? e)
  have hl := h.len
  refine ⟨by simp [h.len], fun n m a e1 e2 => ?_, fun n a o' e1 e2 => ?_, fun n e => ?_⟩
  · rcases get_app1 e1 with e1 | ⟨e1, z1⟩ <;> rcases get_app1 e2 with e2 | ⟨e2, z2⟩
    · exact h.nd n m a e1 e2
    · cases z2; exact absurd e1 (hpn n)
    · cases z1; exact absurd e2 (hpn m)
    · omega
  · rcases get_app1 e1 with e1 | ⟨e1, z1⟩
    · have hn : n < μ.length := (List.getElem?_eq_some_iff.mp e1).1
      rw [List.getElem?_append_left (by omega)] at e2
      obtain ⟨l', r'⟩ := h.of n a o' e1 e2
      obtain ⟨u, hu, _⟩ := r'.there l'
      exact ⟨l', r'.gr (Gr.alloc hp) (upd_ne (ne_of_none hu hp))⟩
    · cases z1
      rename_i e1n
      rw [e1n, hl] at e2
      simp at e2
      subst e2
      exact ⟨l, r⟩
  · rcases get_app1 e with e | ⟨e, z⟩
    · have := h.no n e
      rw [List.getElem?_append_left (List.getElem?_eq_some_iff.mp this).1]
      exact this
    · cases z
theorem RH.fresh {G : Hs} (h : RH K H μ G) (p : Addr) : Num (μ ++ [some p]) G.length p := by
  refine ⟨by simp [h.len], fun a' e => ?_⟩
  rw [← h.len] at e
  simp at e
  exact e.symm
/-- a numbered object is changed -/
theorem Gr.put {G : Hs} (h : RH K H μ G) {n : Nat} {a : Addr} {ho : HO} {o0 : AO} (e0 : Num μ n a) (q0 : G[n]? = some o0) (l0 : o0 ≠ .gone := by intro h; cases h) : Gr H μ (upd H a ho) μ := by
  have e := h.lv e0 q0 l0
  obtain ⟨u, hu, nt, nf⟩ := h.mem (List.mem_of_getElem? e)
  refine ⟨Nat.le_refl _, fun _ _ _ e => e, fun n a l e => (by rw [List.getElem?_eq_none l] at e; cases e), fun b u' q nm => ?_, fun b vs q => ?_, fun b o v q => ?_, fun a => upd_ex⟩
  · by_cases z : b = a
    · subst z
      exact absurd (List.mem_of_getElem? e) nm
    · rw [upd_ne z]
      exact q
  · by_cases z : b = a
    · subst z
      rw [hu] at q
      exact absurd (Option.some.inj q) (nt vs)
    · rw [upd_ne z]
      exact q
  · by_cases z : b = a
    · subst z
      rw [hu] at q
      exact absurd (Option.some.inj q) (nf o v)
    · rw [upd_ne z]
      exact q
theorem RH.put {G : Hs} (h : RH K H μ G) {n : Nat} {a : Addr} {ho : HO} {o o0 : AO} (e0 : Num μ n a) (q0 : G[n]? = some o0) (r : RO K (upd H a ho) μ a o) (l0 : o0 ≠ .gone := by intro h; cases h) (l : o ≠ .gone := by intro h; cases h) : RH K (upd H a ho) μ (G.set n o) := by
  have e := h.lv e0 q0 l0
  refine ⟨by simp [h.len], h.nd, fun m b o' e1 e2 => ?_, fun m e1 => ?_⟩
  · by_cases hm : n = m
    · subst hm
      rw [e] at e1
      cases e1
      rw [List.getElem?_set_self (List.getElem?_eq_some_iff.mp q0).1] at e2
      cases e2
      exact ⟨l, r⟩
    · rw [List.getElem?_set_ne hm] at e2
      obtain ⟨l', r'⟩ := h.of m b o' e1 e2
      refine ⟨l', r'.gr (Gr.put h e0 q0 l0) (upd_ne fun z => hm ?_)⟩
      subst z
      exact h.nd n m b e e1
  · have hm : n ≠ m := fun z => by subst z; rw [e] at e1; cases e1
    rw [List.getElem?_set_ne hm]
    exact h.no m e1
/-- a number goes: what it numbered stays as it is -/
theorem Gr.fz {n : Nat} : Gr H μ H (μ.set n none) := by
  refine ⟨by simp, fun m a l e => ?_, fun m a l e => ?_, fun _ _ h _ => h, fun _ _ h => h, fun _ _ _ h => h, fun _ h => h⟩
  · by_cases z : n = m
    · subst z; rw [List.getElem?_set_self l] at e; cases e
    · rw [List.getElem?_set_ne z] at e; exact e
  · rw [List.getElem?_eq_none (by simpa using l)] at e; cases e
theorem RH.fz {G : Hs} (h : RH K H μ G) {n : Nat} : RH K H (μ.set n none) (G.set n .gone) := by
  have hl := h.len
  refine ⟨by simp [h.len], fun i j a e1 e2 => ?_, fun i a o e1 e2 => ?_, fun i e => ?_⟩
  · have k : ∀ i, (μ.set n none)[i]? = some (some a) → μ[i]? = some (some a) := fun i e => by
      by_cases z : n = i
      · subst z
        by_cases q : n < μ.length
        · rw [List.getElem?_set_self q] at e; cases e
        · rw [List.getElem?_eq_none (by simp; omega)] at e; cases e
      · rw [List.getElem?_set_ne z] at e; exact e
    exact h.nd i j a (k i e1) (k j e2)
  · by_cases z : n = i
    · subst z
      by_cases q : n < μ.length
      · rw [List.getElem?_set_self q] at e1; cases e1
      · rw [List.getElem?_eq_none (by simp; omega)] at e1; cases e1
    · rw [List.getElem?_set_ne z] at e1 e2
      obtain ⟨l, r⟩ := h.of i a o e1 e2
      exact ⟨l, r.gr Gr.fz rfl⟩
  · by_cases z : n = i
    · subst z
      by_cases q : n < μ.length
      · rw [List.getElem?_set_self (by omega)]
      · rw [List.getElem?_eq_none (by simp; omega)] at e; cases e
    · rw [List.getElem?_set_ne z] at e
      rw [List.getElem?_set_ne z]
      exact h.no i e
theorem RH.fr {G : Hs} (h : RH K H μ G) {n : Nat} {a : Addr} (e : μ[n]? = some (some a)) : some a ∉ μ.set n none := fun m => by
  obtain ⟨i, hi⟩ := List.mem_iff_getElem?.mp m
  by_cases z : n = i
  · subst z
    rw [List.getElem?_set_self (List.getElem?_eq_some_iff.mp e).1] at hi
    cases hi
  · rw [List.getElem?_set_ne z] at hi
    exact z (h.nd n i a e hi)
/-- the value that a thing is from when its number goes -/
def fzV : AO → Option AV
  | .lst xs => some (.ls xs)
  | .ins c fs => some (.iv c (fs.map (·.1)) (fs.map (·.2)))
  | .dk kvs => some (.id (kvs.map (·.1)) (kvs.map (·.2)))
  | .dt kvs => some (.it (kvs.map (·.1)) (kvs.map (·.2)))
  | _ => none
theorem RO.fz {G : Hs} (h : RH K H μ G) {n : Nat} {a : Addr} {o : AO} {v : AV} (e0 : Num μ n a) (q : G[n]? = some o) (e : fzV o = some v) : RA K H (μ.set n none) v (.ref a) := by
  have l : o ≠ .gone := fun z => by subst z; cases e
  have ea := h.lv e0 q l
  have r := h.at_ n a o e0 q
  have f := h.fr ea
  cases o with
  | lst xs => cases e; obtain ⟨vs, h1, h2⟩ := r; exact .ls ⟨h1, f⟩ (h2.gr Gr.fz)
  | ins c fs => cases e; obtain ⟨dx, gs, h1, h2⟩ := r; exact .iv h1 f h2.1 (h2.2.gr Gr.fz)
  | dk kvs => cases e; obtain ⟨gs, h1, h2⟩ := r; exact .id h1 f h2.1 (h2.2.gr Gr.fz)
  | dt kvs => cases e; obtain ⟨gs, h1, h2⟩ := r; exact .it h1 f h2.1 (h2.2.gr Gr.fz)
  | xd fs => cases e
  | gone => cases e
end
end Vz
namespace Vz
open PySem L2
/-- the names' values as they stand -/
structure RS (K : PySem.W.Frag) (H : Hp) (μ : Mu) (ρ : En) (σ : St) : Prop where
  len : ρ.length = σ.length
  at_ : ∀ (i : Nat) (v : AV), ρ[i]? = some (some v) → ∃ x, σ[i]? = some (some x) ∧ RA K H μ v x
theorem RS.gr {K : PySem.W.Frag} {H H' : Hp} {μ μ' : Mu} {ρ : En} {σ : St} (g : Gr H μ H' μ') (h : RS K H μ ρ σ) : RS K H' μ' ρ σ :=
  ⟨h.len, fun i v e => let ⟨x, e1, r⟩ := h.at_ i v e; ⟨x, e1, r.gr g⟩⟩
theorem RS.set {K : PySem.W.Frag} {H : Hp} {μ : Mu} {ρ : En} {σ : St} (h : RS K H μ ρ σ) {i : Nat} {v : AV} {x : V} (r : RA K H μ v x) : RS K H μ (ρ.set i (some v)) (σ.set i (some x)) := by
  refine ⟨by simp [h.len], fun j w e => ?_⟩
  by_cases hj : i = j
  · subst hj
    by_cases hi : i < ρ.length
    · rw [List.getElem?_set_self hi] at e
      cases e
      exact ⟨x, by rw [List.getElem?_set_self (by rw [← h.len]; exact hi)], r⟩
    · rw [List.getElem?_eq_none (by simp; omega)] at e
      cases e
  · rw [List.getElem?_set_ne hj] at e
    obtain ⟨y, e1, r1⟩ := h.at_ j w e
    exact ⟨y, by rw [List.getElem?_set_ne hj]; exact e1, r1⟩
theorem RS.unset {K : PySem.W.Frag} {H : Hp} {μ : Mu} {ρ : En} {σ : St} (h : RS K H μ ρ σ) {i : Nat} {x : Option V} : RS K H μ (ρ.set i none) (σ.set i x) := by
  refine ⟨by simp [h.len], fun j w e => ?_⟩
  by_cases hj : i = j
  · subst hj
    by_cases hi : i < ρ.length
    · rw [List.getElem?_set_self hi] at e
      cases e
    · rw [List.getElem?_eq_none (by simp; omega)] at e
      cases e
  · rw [List.getElem?_set_ne hj] at e
    obtain ⟨y, e1, r1⟩ := h.at_ j w e
    exact ⟨y, by rw [List.getElem?_set_ne hj]; exact e1, r1⟩
/-- fewer are known -/
theorem RS.less {K : PySem.W.Frag} {H : Hp} {μ : Mu} {ρ : En} {σ σ' : St} (h : RS K H μ ρ σ) {i : Nat} (e : σ'.set i none = σ.set i none) (hn : σ'.length = σ.length) : RS K H μ (ρ.set i none) σ' := by
  refine ⟨by simp [h.len, hn], fun j w q => ?_⟩
  by_cases hj : i = j
  · subst hj
    by_cases hi : i < ρ.length
    · rw [List.getElem?_set_self hi] at q
      cases q
    · rw [List.getElem?_eq_none (by simp; omega)] at q
      cases q
  · rw [List.getElem?_set_ne hj] at q
    obtain ⟨y, e1, r1⟩ := h.at_ j w q
    refine ⟨y, ?_, r1⟩
    have e2 : (σ'.set i none)[j]? = (σ.set i none)[j]? := by rw [e]
    rw [List.getElem?_set_ne hj, List.getElem?_set_ne hj] at e2
    rw [e2]
    exact e1
abbrev Rel (α β : Type) := Hp → Mu → α → β → Prop
/-- where an exception's own dict stands -/
def RD (K : PySem.W.Frag) (H : Hp) (μ : Mu) (d : XP) : Option Addr → Prop
  | none => d = ([], [])
  | some a => ∃ gs : List (Str × V), H a = some (.xd gs) ∧ some a ∉ μ ∧ d.1 = gs.map (·.1) ∧ RAs K H μ d.2 (gs.map (·.2))
theorem RD.gr {K : PySem.W.Frag} {H H' : Hp} {μ μ' : Mu} (g : Gr H μ H' μ') {d : XP} : ∀ {a : Option Addr}, RD K H μ d a → RD K H' μ' d a
  | none, h => h
  | some _, ⟨gs, h, n, e, r⟩ => ⟨gs, g.keep _ _ h n, g.fr h n, e, r.gr g⟩
/-- the wish of an exception -/
def Exw (K : PySem.W.Frag) (W : WX) (σ : St) (H : Hp) (μ : Mu) (c : Str) (d : XP) (G : Hs) : Prop :=
  ∀ H' μ' dd, Gr H μ H' μ' → RH K H' μ' G → RD K H' μ' d dd → W (.ref (ga K c)) dd σ H'
def Aft {α β : Type} (K : PySem.W.Frag) (rel : Rel α β) (H : Hp) (μ : Mu) (v : α) (G : Hs) (Q : β → Hp → Prop) : Prop :=
  ∀ H' μ' x, Gr H μ H' μ' → RH K H' μ' G → rel H' μ' v x → Q x H'
def Po {α β : Type} (K : PySem.W.Frag) (rel : Rel α β) (W : WX) (σ : St) (H : Hp) (μ : Mu) (r : R α) (Q : β → Hp → Prop) : Prop :=
  match r with
  | .ok v G => Aft K rel H μ v G Q
  | .exc c d G => Exw K W σ H μ c d G
  | .stuck => False
def tG {α β : Type} (K : PySem.W.Frag) (rel : Rel α β) (W : WX) (m : En → Hs → R α) : St → Hp → (β → Hp → Prop) → Prop :=
  fun σ H Q => ∃ ρ μ G, RS K H μ ρ σ ∧ RH K H μ G ∧ Po K rel W σ H μ (m ρ G) Q
section
variable {α β γ δ : Type} {K : PySem.W.Frag} {rel : Rel α β} {rel' : Rel γ δ} {W : WX} {σ : St} {H H1 : Hp} {μ μ1 : Mu} {G : Hs} {ρ : En}
theorem Exw.gr {c : Str} {d : XP} (g : Gr H μ H1 μ1) (h : Exw K W σ H μ c d G) : Exw K W σ H1 μ1 c d G := fun H' μ' dd g' hr hd => h H' μ' dd (g.trans g') hr hd
theorem Po.gr {r : R α} {Q : β → Hp → Prop} (g : Gr H μ H1 μ1) (h : Po K rel W σ H μ r Q) : Po K rel W σ H1 μ1 r Q := by
  cases r with
  | ok v G => exact fun H' μ' x g' hr hv => h H' μ' x (g.trans g') hr hv
  | exc c d G => exact Exw.gr g h
  | stuck => exact h
/-- one behind the other -/
def R.bind (r : R α) (k : α → Hs → R γ) : R γ := match r with
  | .ok v G => k v G
  | .exc c d G => .exc c d G
  | .stuck => .stuck
@[simp] theorem R.bind_ok (v : α) (G : Hs) (k : α → Hs → R γ) : (R.ok v G).bind k = k v G := rfl
@[simp] theorem R.bind_exc (c : Str) (d : XP) (G : Hs) (k : α → Hs → R γ) : (R.exc c d G).bind k = .exc c d G := rfl
@[simp] theorem R.bind_stuck (k : α → Hs → R γ) : (R.stuck).bind k = .stuck := rfl
theorem tG.bind {m : En → Hs → R α} {k : α → Hs → R γ} {Q : δ → Hp → Prop} {Q1 : β → Hp → Prop} (hσ : RS K H μ ρ σ) (hG : RH K H μ G) (h : Po K rel' W σ H μ ((m ρ G).bind k) Q)
    (n : ∀ v G1 H1 μ1 x, Gr H μ H1 μ1 → RS K H1 μ1 ρ σ → RH K H1 μ1 G1 → rel H1 μ1 v x → Po K rel' W σ H1 μ1 (k v G1) Q → Q1 x H1) : tG K rel W m σ H Q1 := by
  refine ⟨ρ, μ, G, hσ, hG, ?_⟩
  cases e : m ρ G with
  | stuck => rw [e] at h; exact h
  | exc c d G' => rw [e] at h; exact h
  | ok v G1 =>
    rw [e] at h
    exact fun H1 μ1 x g hr hv => n v G1 H1 μ1 x g (hσ.gr g) hr hv (h.gr g)
theorem tG.of {m : En → Hs → R α} {Q : β → Hp → Prop} (hσ : RS K H μ ρ σ) (hG : RH K H μ G) (h : Po K rel W σ H μ (m ρ G) Q) : tG K rel W m σ H Q := ⟨ρ, μ, G, hσ, hG, h⟩
end
abbrev rA (K : PySem.W.Frag) : Rel AV V := RA K
abbrev rAs (K : PySem.W.Frag) : Rel (List AV) (List V) := RAs K
abbrev rB : Rel Bool Bool := fun _ _ a b => a = b
abbrev ME := En → Hs → R AV
abbrev MEs := En → Hs → R (List AV)
abbrev MB := En → Hs → R Bool
abbrev MS := En → Hs → SR
/-- the expression e computes m -/
def SE (X : Cx) (W : WX) (e : Expr) (m : ME) : Prop := PE X e (tG X.K (rA X.K) W m)
def SA (X : Cx) (W : WX) (es : List Expr) (m : MEs) : Prop := PA X es (tG X.K (rAs X.K) W m)
def ST (X : Cx) (W : WX) (e : Expr) (m : MB) : Prop := PT X e (tG X.K rB W m)
def SW (X : Cx) (W : WX) (e : Expr) (m : MB) : Prop := PW X e (tG X.K rB W m)
def PoS (K : PySem.W.Frag) (W : WX) (D : Ends) (H : Hp) (μ : Mu) (r : SR) : Prop :=
  match r with
  | .nx ρ G => ∀ H' μ' σ', Gr H μ H' μ' → RH K H' μ' G → RS K H' μ' ρ σ' → D.nx σ' H'
  | .rt v G => ∀ H' μ' x, Gr H μ H' μ' → RH K H' μ' G → RA K H' μ' v x → D.rt x H'
  | .bk ρ G => ∀ H' μ' σ', Gr H μ H' μ' → RH K H' μ' G → RS K H' μ' ρ σ' → D.bk σ' H'
  | .ct ρ G => ∀ H' μ' σ', Gr H μ H' μ' → RH K H' μ' G → RS K H' μ' ρ σ' → D.ct σ' H'
  | .exc c d ρ G => ∀ H' μ' σ' dd, Gr H μ H' μ' → RH K H' μ' G → RS K H' μ' ρ σ' → RD K H' μ' d dd → W (.ref (ga K c)) dd σ' H'
  | .stuck => False
def tS (K : PySem.W.Frag) (W : WX) (m : MS) : TS := fun D σ H => ∃ ρ μ G, RS K H μ ρ σ ∧ RH K H μ G ∧ PoS K W D H μ (m ρ G)
def SS (X : Cx) (W : WX) (s : Stmt) (m : MS) : Prop := PS X s (tS X.K W m)
def SSs (X : Cx) (W : WX) (s : List Stmt) (m : MS) : Prop := PSs X s (tS X.K W m)
theorem PE.imp {X : Cx} {e : Expr} {t t' : TE} (h : PE X e t) (i : ∀ σ H Q, t' σ H Q → t σ H Q) : PE X e t' := ⟨fun pins s σ H Q I w => h.run pins s σ H Q I (i σ H Q w)⟩
theorem PT.imp {X : Cx} {e : Expr} {t t' : TT} (h : PT X e t) (i : ∀ σ H Q, t' σ H Q → t σ H Q) : PT X e t' := ⟨fun pins s σ H Q I w => h.run pins s σ H Q I (i σ H Q w)⟩
theorem PW.imp {X : Cx} {e : Expr} {t t' : TT} (h : PW X e t) (i : ∀ σ H Q, t' σ H Q → t σ H Q) : PW X e t' := ⟨fun wh pins s σ H Q I w => h.run wh pins s σ H Q I (i σ H Q w)⟩
theorem PA.imp {X : Cx} {e : List Expr} {t t' : TA} (h : PA X e t) (i : ∀ σ H Q, t' σ H Q → t σ H Q) : PA X e t' := ⟨fun p pins s σ H Q I w => h.run p pins s σ H Q I (i σ H Q w)⟩
theorem PS.imp {X : Cx} {e : Stmt} {t t' : TS} (h : PS X e t) (i : ∀ D σ H, t' D σ H → t D σ H) : PS X e t' := ⟨fun pins s σ H D I w => h.run pins s σ H D I (i D σ H w)⟩
theorem PSs.imp {X : Cx} {e : List Stmt} {t t' : TS} (h : PSs X e t) (i : ∀ D σ H, t' D σ H → t D σ H) : PSs X e t' := ⟨fun pins s σ H D I w => h.run pins s σ H D I (i D σ H w)⟩
section
variable {X : Cx} {W : WX} {a b c e : Expr} {es : List Expr} {ma mb mc : ME} {ms : MEs} {pos : Pos}
def mVar (i : Nat) : ME := fun ρ G => match ρ[i]? with
  | some (some v) => .ok v G
  | _ => .stuck
def mC (v : AV) : ME := fun _ G => .ok v G
theorem Po.now {α β : Type} {K : PySem.W.Frag} {rel : Rel α β} {σ : St} {H : Hp} {μ : Mu} {G : Hs} {v : α} {x : β} {Q : β → Hp → Prop} (h : Po K rel W σ H μ (.ok v G) Q) (hG : RH K H μ G) (r : rel H μ v x) : Q x H :=
  h H μ x (Gr.refl _ _) hG r
theorem se_var {i : Nat} {x : Str} (h : PE X (.Name x pos) (tVar i)) : SE X W (.Name x pos) (mVar i) := by
  refine PE.imp h fun σ H Q ⟨ρ, μ, G, hσ, hG, h⟩ => ?_
  unfold mVar at h
  cases e : ρ[i]? with
  | none => rw [e] at h; exact h.elim
  | some o =>
    cases o with
    | none => rw [e] at h; exact h.elim
    | some v =>
      rw [e] at h
      obtain ⟨y, e1, r⟩ := hσ.at_ i v e
      exact ⟨y, e1, h.now hG r⟩
theorem se_c {v : AV} {x : V} (h : PE X e (tC x)) (r : ∀ H μ, RA X.K H μ v x) : SE X W e (mC v) :=
  PE.imp h fun σ H Q ⟨ρ, μ, G, hσ, hG, h⟩ => h.now hG (r H μ)
theorem se_int {i : Int} {j : Nat} : SE X W (.Constant (.int i) j pos) (mC (.int i)) := se_c pe_int fun _ _ => .int i
theorem se_bl {i : Bool} {j : Nat} : SE X W (.Constant (.bool i) j pos) (mC (.bl i)) := se_c pe_bl fun _ _ => .bl i
theorem se_non {j : Nat} : SE X W (.Constant .none j pos) (mC .non) := se_c pe_non fun _ _ => .non
theorem se_str {i : Str} {j : Nat} : SE X W (.Constant (.str i) j pos) (mC (.str i)) := se_c pe_str fun _ _ => .str i
def Op2 (K : PySem.W.Frag) (r : R2) (f : AV → AV → Hs → R AV) : Prop := ∀ (W : WX) σ H μ G v w x y Q, RH K H μ G → RA K H μ v x → RA K H μ w y → Po K (rA K) W σ H μ (f v w G) Q → r x y H Q
def m2 (f : AV → AV → Hs → R AV) (ma mb : ME) : ME := fun ρ G => (ma ρ G).bind fun v G1 => (mb ρ G1).bind fun w G2 => f v w G2
theorem op2_go {r : R2} {f : AV → AV → Hs → R AV} (hf : Op2 X.K r f) {σ : St} {H : Hp} {Q : VK} (h : tG X.K (rA X.K) W (m2 f ma mb) σ H Q) : tOp r (tG X.K (rA X.K) W ma) (tG X.K (rA X.K) W mb) σ H Q := by
  obtain ⟨ρ, μ, G, hσ, hG, h⟩ := h
  exact tG.bind hσ hG h fun v G1 H1 μ1 x g1 hσ1 hG1 rv h1 => tG.bind hσ1 hG1 h1 fun w G2 H2 μ2 y g2 hσ2 hG2 rw' h2 => hf W σ H2 μ2 G2 v w x y Q hG2 (rv.gr g2) rw' h2
theorem se_bin {op : Operator} {r : R2} {f : AV → AV → Hs → R AV} (ho : OpR X (binaryOp op) r) (hf : Op2 X.K r f) (ha : SE X W a ma) (hb : SE X W b mb) : SE X W (.BinOp a op b pos) (m2 f ma mb) :=
  PE.imp (pe_op ho ha hb) fun σ H Q h => op2_go hf h
theorem se_cmp {op : CmpOp} {r : R2} {f : AV → AV → Hs → R AV} (ho : OpR X (compareOp op) r) (hf : Op2 X.K r f) (ha : SE X W a ma) (hb : SE X W b mb) (hm : behindInMarks op b = false) : SE X W (.Compare a [op] [b] pos) (m2 f ma mb) :=
  PE.imp (pe_cmpR ho ha hb hm) fun σ H Q h => op2_go hf h
/-- a bool's own value -/
def asB (r : R AV) : R Bool := match r with
  | .ok (.bl b) G => .ok b G
  | .ok _ _ => .stuck
  | .exc c d G => .exc c d G
  | .stuck => .stuck
@[simp] theorem asB_ok (b : Bool) (G : Hs) : asB (.ok (.bl b) G) = .ok b G := rfl
def mTest (m : ME) : MB := fun ρ G => asB (m ρ G)
theorem test_po {K : PySem.W.Frag} {σ : St} {H : Hp} {μ : Mu} {r : R AV} {Q : Bool → Hp → Prop} (h : Po K rB W σ H μ (asB r) Q) : Po K (rA K) W σ H μ r (fun x H' => ∃ k, x = .bl k ∧ Q k H') := by
  cases r with
  | stuck => exact h
  | exc c d G => exact h
  | ok v G =>
    cases v with
    | bl b =>
      intro H' μ' x g hG r
      cases r
      exact ⟨b, rfl, h H' μ' b g hG rfl⟩
    | _ => exact h.elim
theorem test_go {m : ME} {σ : St} {H : Hp} {Q : Bool → Hp → Prop} (h : tG X.K rB W (mTest m) σ H Q) : tTest (tG X.K (rA X.K) W m) σ H Q := by
  obtain ⟨ρ, μ, G, hσ, hG, h⟩ := h
  exact ⟨ρ, μ, G, hσ, hG, test_po h⟩
theorem st_cmp {op : CmpOp} {r : R2} {f : AV → AV → Hs → R AV} (ho : OpR X (compareOp op) r) (hf : Op2 X.K r f) (ha : SE X W a ma) (hb : SE X W b mb) (hm : behindInMarks op b = false) : ST X W (.Compare a [op] [b] pos) (mTest (m2 f ma mb)) :=
  PT.imp (pt_cmpR ho ha hb hm) fun σ H Q h => by
    have h1 := test_go h
    exact op2_go hf h1
/-- a op1 b op2 c -/
def mChain (f g : AV → AV → Hs → R AV) (ma mb mc : ME) : ME := fun ρ G => (ma ρ G).bind fun v G1 => (mb ρ G1).bind fun w G2 => (asB (f v w G2)).bind fun k G3 => if k = true then (mc ρ G3).bind fun u G4 => g w u G4 else .ok (.bl false) G3
theorem chain_go {r r' : R2} {f g : AV → AV → Hs → R AV} (hf : Op2 X.K r f) (hg : Op2 X.K r' g) {σ : St} {H : Hp} {Q : VK} (h : tG X.K (rA X.K) W (mChain f g ma mb mc) σ H Q) : tChain r r' (tG X.K (rA X.K) W ma) (tG X.K (rA X.K) W mb) (tG X.K (rA X.K) W mc) σ H Q := by
  obtain ⟨ρ, μ, G, hσ, hG, h⟩ := h
  refine tG.bind hσ hG h fun v G1 H1 μ1 x g1 hσ1 hG1 rv h1 => tG.bind hσ1 hG1 h1 fun w G2 H2 μ2 y g2 hσ2 hG2 rw' h2 => ?_
  refine hf W σ H2 μ2 G2 v w x y _ hG2 (rv.gr g2) rw' (test_po ?_)
  cases e : asB (f v w G2) with
  | stuck => rw [e] at h2; exact h2
  | exc c d G' => rw [e] at h2; exact h2
  | ok k G3 =>
    rw [e] at h2
    intro H3 μ3 k' g3 hG3 ek
    have ek : k = k' := ek
    subst ek
    have h3 := Po.gr g3 h2
    cases k with
    | false =>
      refine iteF ?_
      have h3 : Po X.K (rA X.K) W σ H3 μ3 (.ok (.bl false) G3) Q := h3
      exact h3.now hG3 (.bl false)
    | true =>
      refine iteT ?_
      have h3 : Po X.K (rA X.K) W σ H3 μ3 ((mc ρ G3).bind fun u G4 => g w u G4) Q := h3
      exact tG.bind (hσ2.gr g3) hG3 h3 fun u G4 H4 μ4 z g4 hσ4 hG4 rz h4 => hg W σ H4 μ4 G4 w u y z Q hG4 ((rw'.gr g3).gr g4) rz h4
theorem se_chain {op op' : CmpOp} {r r' : R2} {f g : AV → AV → Hs → R AV} (ho : OpR X (compareOp op) r) (ho' : OpR X (compareOp op') r') (hf : Op2 X.K r f) (hg : Op2 X.K r' g) (ha : SE X W a ma) (hb : SE X W b mb) (hc : SE X W c mc)
    (hm : lastMarks [op, op'] [b, c] = false) : SE X W (.Compare a [op, op'] [b, c] pos) (mChain f g ma mb mc) :=
  PE.imp (pe_chain ho ho' ha hb hc hm) fun σ H Q h => chain_go hf hg h
end
end Vz
namespace Vz
open PySem L2
abbrev szl : Nat := sizeLine
/-- a list's items; a tuple's -/
def lstOf (G : Hs) : AV → Option (List AV)
  | .lk xs => some xs
  | .ls xs => some xs
  | .ref n => match G[n]? with
    | some (.lst xs) => some xs
    | _ => none
  | _ => none
def tupOf : AV → Option (List AV)
  | .tup xs => some xs
  | .con xs => some xs
  | _ => none
def seqOf (G : Hs) (v : AV) : Option (List AV) := match tupOf v with
  | some xs => some xs
  | none => lstOf G v
section
variable {K : PySem.W.Frag} {H : Hp} {μ : Mu} {G : Hs} {v w : AV} {x y : V} {xs ys : List AV}
theorem lstOf_ok (hG : RH K H μ G) (r : RA K H μ v x) (e : lstOf G v = some xs) : ∃ a vs, x = .ref a ∧ SqL K H a vs ∧ RAs K H μ xs vs := by
  cases r with
  | lk h rs =>
    cases e
    exact ⟨_, _, rfl, h.sq, rs⟩
  | ls h rs =>
    cases e
    exact ⟨_, _, rfl, h.sq, rs⟩
  | ref h =>
    rename_i n a
    obtain ⟨o, ho, ro⟩ := hG.obj h
    simp only [lstOf, ho] at e
    cases o with
    | lst zs =>
      cases e
      obtain ⟨vs, h1, h2⟩ := ro
      exact ⟨_, vs, rfl, SqL.of h1, h2⟩
    | _ => cases e
  | _ => cases e
theorem tupOf_ok (r : RA K H μ v x) (e : tupOf v = some xs) : ∃ a vs, x = .ref a ∧ SqT K H a vs ∧ RAs K H μ xs vs := by
  cases r with
  | tup h rs =>
    cases e
    exact ⟨_, _, rfl, SqT.of h, rs⟩
  | con h rs =>
    cases e
    exact ⟨_, _, rfl, h.sq, rs⟩
  | _ => cases e
theorem seqOf_ok (hG : RH K H μ G) (r : RA K H μ v x) (e : seqOf G v = some xs) : ∃ a vs, x = .ref a ∧ (SqL K H a vs ∨ SqT K H a vs) ∧ RAs K H μ xs vs := by
  unfold seqOf at e
  cases h : tupOf v with
  | some zs =>
    rw [h] at e
    cases e
    obtain ⟨a, vs, h1, h2, h3⟩ := tupOf_ok r h
    exact ⟨a, vs, h1, .inr h2, h3⟩
  | none =>
    rw [h] at e
    obtain ⟨a, vs, h1, h2, h3⟩ := lstOf_ok hG r e
    exact ⟨a, vs, h1, .inl h2, h3⟩
end
def fI2 (g : Int → Int → Option Int) : AV → AV → Hs → R AV
  | .int i, .int j, G => match g i j with
    | some k => .ok (.int k) G
    | none => .stuck
  | _, _, _ => .stuck
/-- a rule for ints under a condition -/
theorem op2_int {K : PySem.W.Frag} {C : Int → Int → Prop} {g : Int → Int → V} {f : Int → Int → Option Int} (h : ∀ i j k, f i j = some k → C i j ∧ g i j = .int k) : Op2 K (rI C g) (fI2 f) := by
  intro W σ H μ G v w x y Q hG rv rw' q
  cases rv with
  | int i =>
    cases rw' with
    | int j =>
      simp only [fI2] at q
      cases e : f i j with
      | none => rw [e] at q; exact q.elim
      | some k =>
        rw [e] at q
        obtain ⟨c, eg⟩ := h i j k e
        exact ⟨i, j, rfl, rfl, c, by rw [eg]; exact q.now hG (.int k)⟩
    | _ => exact q.elim
  | _ => exact q.elim
theorem op2_int0 {K : PySem.W.Frag} {g : Int → Int → V} {f : Int → Int → Int} (h : ∀ i j, g i j = .int (f i j)) : Op2 K (rI0 g) (fI2 fun i j => some (f i j)) := by
  intro W σ H μ G v w x y Q hG rv rw' q
  cases rv with
  | int i =>
    cases rw' with
    | int j => exact ⟨i, j, rfl, rfl, by rw [h]; exact Po.now (v := AV.int (f i j)) q hG (.int _)⟩
    | _ => exact q.elim
  | _ => exact q.elim
abbrev fSub : AV → AV → Hs → R AV := fI2 fun i j => some (i - j)
theorem op2_sub {K : PySem.W.Frag} : Op2 K (rI0 fun i j => .int (i - j)) fSub := op2_int0 fun _ _ => rfl
abbrev fMod : AV → AV → Hs → R AV := fI2 fun i j => if 0 < j then some (i % j) else none
theorem op2_mod {K : PySem.W.Frag} : Op2 K (rI (fun _ j => 0 < j) fun i j => .int (i % j)) fMod := op2_int fun i j k e => by
  by_cases h : 0 < j
  · rw [if_pos h] at e
    cases e
    exact ⟨h, rfl⟩
  · rw [if_neg h] at e
    cases e
/-- // by a positive number below 2 ^ 9000 -/
abbrev fDiv : AV → AV → Hs → R AV := fI2 fun i j => if 0 < j ∧ j.natAbs.log2 < 9000 then some (i / j) else none
theorem op2_div {K : PySem.W.Frag} : Op2 K (rI CDivW fun i j => .int (i / j)) fDiv := op2_int fun i j k e => by
  by_cases h : 0 < j ∧ j.natAbs.log2 < 9000
  · rw [if_pos h] at e
    cases e
    exact ⟨h, rfl⟩
  · rw [if_neg h] at e
    cases e
abbrev fPow : AV → AV → Hs → R AV := fI2 fun i j => if 0 ≤ j ∧ j ≤ 1000000 ∧ i.natAbs < 2 ^ 64 then some (i ^ j.toNat) else none
theorem op2_pow {K : PySem.W.Frag} : Op2 K (rI CPow fun i j => .int (i ^ j.toNat)) fPow := op2_int fun i j k e => by
  by_cases h : 0 ≤ j ∧ j ≤ 1000000 ∧ i.natAbs < 2 ^ 64
  · rw [if_pos h] at e
    cases e
    exact ⟨h, rfl⟩
  · rw [if_neg h] at e
    cases e
/-- + -/
def fAdd : AV → AV → Hs → R AV
  | .int i, .int j, G => .ok (.int (i + j)) G
  | .str a, .str b, G => if a.length + b.length ≤ szl then .ok (.str (a ++ b)) G else .stuck
  | .ref m, .ref n, G => match G[m]?, G[n]? with
    | some (.lst xs), some (.lst ys) => if xs.length + ys.length ≤ szl then .ok (.ref G.length) (G ++ [.lst (xs ++ ys)]) else .stuck
    | _, _ => .stuck
  | v, w, G => match tupOf v, tupOf w with
    | some xs, some ys => if xs.length + ys.length ≤ szl then (if xs.isEmpty then .ok w G else if ys.isEmpty then .ok v G else .ok (.tup (xs ++ ys)) G) else .stuck
    | _, _ => .stuck
def rAddA (K : PySem.W.Frag) : R2 := fun x y H Q => (rI0 (fun i j => .int (i + j)) x y H Q ∨ (∃ i j, x = .str i ∧ y = .str j ∧ i.length + j.length ≤ sizeLine ∧ Q (.str (i ++ j)) H)) ∨ (rCat x y H Q ∨ rCatA K x y H Q)
theorem op_addA {X : Cx} : OpR X (binaryOp .Add) (rAddA X.K) := (op_add.or op_add_str).or (op_cat.or op_catA)
theorem fAdd_tup {v w : AV} {xs ys : List AV} (hv : tupOf v = some xs) (hw : tupOf w = some ys) (G : Hs) : fAdd v w G = if xs.length + ys.length ≤ szl then (if xs.isEmpty then .ok w G else if ys.isEmpty then .ok v G else .ok (.tup (xs ++ ys)) G) else .stuck := by
  cases v <;> first | (cases hv; done) | (cases hv; cases w <;> first | (cases hw; done) | (cases hw; rfl))
theorem fAdd_no {v w : AV} {xs : List AV} (hv : tupOf v = some xs) (hw : tupOf w = none) (G : Hs) : fAdd v w G = .stuck := by
  cases v <;> first | (cases hv; done) | (cases hv; cases w <;> first | (cases hw; done) | (cases hw; rfl))
theorem op2_tup {K : PySem.W.Frag} {W : WX} {σ : St} {H : Hp} {μ : Mu} {G : Hs} {v w : AV} {x y : V} {xs ys : List AV} {Q : VK} (hG : RH K H μ G) (rv : RA K H μ v x) (rw' : RA K H μ w y) (hv : tupOf v = some xs) (hw : tupOf w = some ys)
    (q : Po K (rA K) W σ H μ (fAdd v w G) Q) : rCatA K x y H Q := by
  rw [fAdd_tup hv hw] at q
  obtain ⟨a, vs, rfl, hs, rs⟩ := tupOf_ok rv hv
  obtain ⟨b, ws, rfl, hs2, rs2⟩ := tupOf_ok rw' hw
  by_cases hz : xs.length + ys.length ≤ szl
  · rw [if_pos hz] at q
    refine ⟨a, b, vs, ws, rfl, rfl, hs, hs2, by rw [← rs.length, ← rs2.length]; exact hz, fun e => ?_, fun e1 e2 => ?_, fun e1 e2 p hp => ?_⟩
    · subst e
      cases rs
      exact Po.now (v := w) q hG rw'
    · subst e2
      cases rs2
      cases rs with
      | nil => exact absurd rfl e1
      | cons r t => exact Po.now (v := v) q hG rv
    · cases rs with
      | nil => exact absurd rfl e1
      | cons r t =>
        cases rs2 with
        | nil => exact absurd rfl e2
        | cons r' t' =>
          exact q _ μ _ (Gr.new hp) (hG.new hp) (.tup upd_same (((RAs.cons r t).app (.cons r' t')).gr (Gr.new hp)))
  · rw [if_neg hz] at q
    exact q.elim
theorem op2_add {K : PySem.W.Frag} : Op2 K (rAddA K) fAdd := by
  intro W σ H μ G v w x y Q hG rv rw' q
  cases h1 : tupOf v with
  | some xs =>
    cases h2 : tupOf w with
    | some ys => exact .inr (.inr (op2_tup hG rv rw' h1 h2 q))
    | none =>
      rw [fAdd_no h1 h2] at q
      exact q.elim
  | none =>
    cases rv with
    | int i =>
      cases rw' with
      | int j => exact .inl (.inl ⟨i, j, rfl, rfl, Po.now (v := AV.int (i + j)) q hG (.int _)⟩)
      | _ => exact q.elim
    | str i =>
      cases rw' with
      | str j =>
        simp only [fAdd] at q
        by_cases hz : i.length + j.length ≤ szl
        · rw [if_pos hz] at q
          exact .inl (.inr ⟨i, j, rfl, rfl, hz, Po.now (v := AV.str (i ++ j)) q hG (.str _)⟩)
        · rw [if_neg hz] at q
          exact q.elim
      | _ => exact q.elim
    | ref h =>
      rename_i m a
      cases rw' with
      | ref h' =>
        rename_i n b
        obtain ⟨o, ho, ro⟩ := hG.obj h
        obtain ⟨o', ho', ro'⟩ := hG.obj h'
        simp only [fAdd, ho, ho'] at q
        cases o with
        | lst xs =>
          cases o' with
          | lst ys =>
            simp only at q
            obtain ⟨vs, h1, h2⟩ := ro
            obtain ⟨ws, h3, h4⟩ := ro'
            by_cases hz : xs.length + ys.length ≤ szl
            · rw [if_pos hz] at q
              refine .inr (.inl ⟨a, b, vs, ws, rfl, rfl, h1, h3, by rw [← h2.length, ← h4.length]; exact hz, fun p hp => ?_⟩)
              have g : Gr H μ (upd H p (.lst (vs ++ ws))) (μ ++ [some p]) := Gr.alloc hp
              exact q _ _ _ g (hG.alloc hp ⟨_, upd_same, (h2.app h4).gr g⟩) (.ref (hG.fresh p))
            · rw [if_neg hz] at q
              exact q.elim
          | _ => exact q.elim
        | _ => exact q.elim
      | _ => exact q.elim
    | tup h r => cases h1
    | con h r => cases h1
    | _ => cases w <;> exact q.elim
/-- * -/
def fMul : AV → AV → Hs → R AV
  | .int i, .int j, G => if i.natAbs.log2 + j.natAbs.log2 < 1000000 then .ok (.int (i * j)) G else .stuck
  | .ref m, .int k, G => match G[m]? with
    | some (.lst xs) => if -(2 ^ 63) ≤ k ∧ k < 2 ^ 63 ∧ xs.length * k.toNat ≤ szl then .ok (.ref G.length) (G ++ [.lst (List.replicate k.toNat xs).flatten]) else .stuck
    | _ => .stuck
  | _, _, _ => .stuck
theorem RAs.rep {K : PySem.W.Frag} {H : Hp} {μ : Mu} {xs : List AV} {vs : List V} (h : RAs K H μ xs vs) : ∀ k : Nat, RAs K H μ (List.replicate k xs).flatten (List.replicate k vs).flatten
  | 0 => .nil
  | k + 1 => by
    rw [List.replicate_succ, List.replicate_succ, List.flatten_cons, List.flatten_cons]
    exact h.app (RAs.rep h k)
def rMulA (K : PySem.W.Frag) : R2 := fun x y H Q => rI CMulW (fun i j => .int (i * j)) x y H Q ∨ rRep x y H Q
theorem op_mulA {X : Cx} : OpR X (binaryOp .Mult) (rMulA X.K) := op_mulW.or op_rep
theorem op2_mul {K : PySem.W.Frag} : Op2 K (rMulA K) fMul := by
  intro W σ H μ G v w x y Q hG rv rw' q
  cases rv with
  | int i =>
    cases rw' with
    | int j =>
      simp only [fMul] at q
      by_cases hz : i.natAbs.log2 + j.natAbs.log2 < 1000000
      · rw [if_pos hz] at q
        exact .inl ⟨i, j, rfl, rfl, hz, Po.now (v := AV.int (i * j)) q hG (.int _)⟩
      · rw [if_neg hz] at q
        exact q.elim
    | _ => exact q.elim
  | ref h =>
    rename_i m a
    cases rw' with
    | int k =>
      obtain ⟨o, ho, ro⟩ := hG.obj h
      simp only [fMul, ho] at q
      cases o with
      | lst xs =>
        simp only at q
        obtain ⟨vs, h1, h2⟩ := ro
        by_cases hz : -(2 ^ 63) ≤ k ∧ k < 2 ^ 63 ∧ xs.length * k.toNat ≤ szl
        · rw [if_pos hz] at q
          refine .inr ⟨a, k, vs, rfl, rfl, h1, hz.1, hz.2.1, by rw [← h2.length]; exact hz.2.2, fun p hp => ?_⟩
          have g : Gr H μ (upd H p (.lst (List.replicate k.toNat vs).flatten)) (μ ++ [some p]) := Gr.alloc hp
          exact q _ _ _ g (hG.alloc hp ⟨_, upd_same, (h2.rep _).gr g⟩) (.ref (hG.fresh p))
        · rw [if_neg hz] at q
          exact q.elim
      | _ => exact q.elim
    | _ => exact q.elim
  | _ => exact q.elim
def fCmpI (g : Int → Int → Bool) : AV → AV → Hs → R AV
  | .int i, .int j, G => .ok (.bl (g i j)) G
  | _, _, _ => .stuck
theorem op2_cmpI {K : PySem.W.Frag} {g : Int → Int → Bool} : Op2 K (rI0 fun i j => .bl (g i j)) (fCmpI g) := by
  intro W σ H μ G v w x y Q hG rv rw' q
  cases rv with
  | int i =>
    cases rw' with
    | int j => exact ⟨i, j, rfl, rfl, Po.now (v := AV.bl (g i j)) q hG (.bl _)⟩
    | _ => exact q.elim
  | _ => exact q.elim
abbrev fLt := fCmpI fun i j => decide (i < j)
abbrev fLe := fCmpI fun i j => decide (i ≤ j)
abbrev fGt := fCmpI fun i j => decide (j < i)
abbrev fGe := fCmpI fun i j => decide (j ≤ i)
def fIsN : AV → AV → Hs → R AV
  | .non, .non, G => .ok (.bl true) G
  | _, .non, G => .ok (.bl false) G
  | _, _, _ => .stuck
def fNotN : AV → AV → Hs → R AV
  | .non, .non, G => .ok (.bl false) G
  | _, .non, G => .ok (.bl true) G
  | _, _, _ => .stuck
theorem op2_isN {K : PySem.W.Frag} : Op2 K (fun x y H Q => y = .non ∧ Q (.bl (decide (x = .non))) H) fIsN := by
  intro W σ H μ G v w x y Q hG rv rw' q
  cases rw' with
  | non =>
    refine ⟨rfl, ?_⟩
    cases rv with
    | non => exact Po.now (v := AV.bl true) q hG (.bl _)
    | _ => exact Po.now (v := AV.bl false) q hG (.bl _)
  | _ => cases v <;> exact q.elim
theorem op2_notN {K : PySem.W.Frag} : Op2 K (fun x y H Q => y = .non ∧ Q (.bl (!decide (x = .non))) H) fNotN := by
  intro W σ H μ G v w x y Q hG rv rw' q
  cases rw' with
  | non =>
    refine ⟨rfl, ?_⟩
    cases rv with
    | non => exact Po.now (v := AV.bl false) q hG (.bl _)
    | _ => exact Po.now (v := AV.bl true) q hG (.bl _)
  | _ => cases v <;> exact q.elim
end Vz
namespace Vz
open PySem L2
def allS {α : Type} : List (Option α) → Option (List α)
  | [] => some []
  | none :: _ => none
  | some a :: r => match allS r with
    | some l => some (a :: l)
    | none => none
def dat : Nat → Hs → AV → Option PyData
  | 0, _, _ => none
  | n + 1, G, v => match v with
    | .non => some .none
    | .bl b => some (.bool b)
    | .int i => some (.int i)
    | .str s => some (.str s)
    | .tup xs => match allS (xs.map (dat n G)) with
      | some ds => some (.tuple ds)
      | none => none
    | .con xs => match allS (xs.map (dat n G)) with
      | some ds => some (.tuple ds)
      | none => none
    | .lk xs => match allS (xs.map (dat n G)) with
      | some ds => some (.list ds)
      | none => none
    | .ls xs => match allS (xs.map (dat n G)) with
      | some ds => some (.list ds)
      | none => none
    | .iv _ _ _ => none
    | .id _ _ => none
    | .it _ _ => none
    | .xv _ _ _ => none
    | .ref m => match G[m]? with
      | some (.lst xs) => match allS (xs.map (dat n G)) with
        | some ds => some (.list ds)
        | none => none
      | _ => none
section
variable {K : PySem.W.Frag} {H : Hp} {μ : Mu} {G : Hs}
theorem dats_ok {f : AV → Option PyData} (hf : ∀ v x d, RA K H μ v x → f v = some d → Dp K H x d) : ∀ {xs : List AV} {vs : List V} {ds : List PyData}, RAs K H μ xs vs → allS (xs.map f) = some ds → DpAll K H vs ds
  | _, _, _, .nil, e => by cases e; exact .nil
  | _, _, ds, .cons (x := x) (xs := xs) r t, e => by
    rw [List.map_cons] at e
    cases h : f x with
    | none => rw [h] at e; cases e
    | some d =>
      rw [h] at e
      cases h2 : allS (xs.map f) with
      | none => simp only [allS, h2] at e; cases e
      | some l =>
        simp only [allS, h2] at e
        cases e
        exact .cons (hf _ _ _ r h) (dats_ok hf t h2)
theorem dat_ok (hG : RH K H μ G) : ∀ (n : Nat) (v : AV) (x : V) (d : PyData), RA K H μ v x → dat n G v = some d → Dp K H x d
  | 0, _, _, _, _, e => by cases e
  | n + 1, v, x, d, r, e => by
    have ih := fun v x d => dat_ok hG n v x d
    cases r with
    | non => cases e; exact .non
    | bl b => cases e; exact .bl b
    | int b => cases e; exact .int b
    | str b => cases e; exact .str b
    | tup h rs =>
      rename_i a vs xs
      simp only [dat] at e
      cases h2 : allS (xs.map (dat n G)) with
      | none => rw [h2] at e; cases e
      | some l => rw [h2] at e; cases e; exact .tup (SqT.of h) (dats_ok ih rs h2)
    | con h rs =>
      rename_i a vs xs
      simp only [dat] at e
      cases h2 : allS (xs.map (dat n G)) with
      | none => rw [h2] at e; cases e
      | some l => rw [h2] at e; cases e; exact .tup h.sq (dats_ok ih rs h2)
    | lk h rs =>
      rename_i a vs xs
      simp only [dat] at e
      cases h2 : allS (xs.map (dat n G)) with
      | none => rw [h2] at e; cases e
      | some l => rw [h2] at e; cases e; exact .lst h.sq (dats_ok ih rs h2)
    | ls h rs =>
      rename_i a vs xs
      simp only [dat] at e
      cases h2 : allS (xs.map (dat n G)) with
      | none => rw [h2] at e; cases e
      | some l => rw [h2] at e; cases e; exact .lst h.sq (dats_ok ih rs h2)
    | iv _ _ _ _ => cases e
    | id _ _ _ _ => cases e
    | it _ _ _ _ => cases e
    | xv0 _ _ => cases e
    | xv _ _ _ _ _ _ => cases e
    | ref h =>
      rename_i m a
      obtain ⟨o, ho, ro⟩ := hG.obj h
      simp only [dat, ho] at e
      cases o with
      | lst xs =>
        obtain ⟨vs, h1, rs⟩ := ro
        simp only at e
        cases h2 : allS (xs.map (dat n G)) with
        | none => rw [h2] at e; cases e
        | some l => rw [h2] at e; cases e; exact .lst (SqL.of h1) (dats_ok ih rs h2)
      | _ => cases e
end
def eqF (G : Hs) (v w : AV) : Option Bool := match dat 12 G v, dat 12 G w with
  | some d, some e => if SeqAt.shaped d = true ∧ SeqAt.shaped e = true then some (PyData.eqv d e) else none
  | _, _ => none
def eqB (G : Hs) : AV → AV → Option Bool
  | .int i, .int j => some (decide (i = j))
  | .str a, .str b => some (decide (a = b))
  | .bl a, .bl b => some (decide (a = b))
  | .non, .non => some true
  | v, w => eqF G v w
def fEq (v w : AV) (G : Hs) : R AV := match eqB G v w with
  | some b => .ok (.bl b) G
  | none => .stuck
def fNe (v w : AV) (G : Hs) : R AV := match eqB G v w with
  | some b => .ok (.bl (!b)) G
  | none => .stuck
theorem eqB_ok {K : PySem.W.Frag} {H : Hp} {μ : Mu} {G : Hs} {v w : AV} {x y : V} {b : Bool} (hG : RH K H μ G) (rv : RA K H μ v x) (rw' : RA K H μ w y) (e : eqB G v w = some b) :
    (scal x y = true ∧ b = decide (x = y)) ∨ ∃ d e, Dp K H x d ∧ Dp K H y e ∧ SeqAt.shaped d = true ∧ SeqAt.shaped e = true ∧ b = PyData.eqv d e := by
  have far : eqF G v w = some b → (scal x y = true ∧ b = decide (x = y)) ∨ ∃ d e, Dp K H x d ∧ Dp K H y e ∧ SeqAt.shaped d = true ∧ SeqAt.shaped e = true ∧ b = PyData.eqv d e := fun e => by
    unfold eqF at e
    cases h1 : dat 12 G v with
    | none => rw [h1] at e; cases e
    | some d =>
      cases h2 : dat 12 G w with
      | none => rw [h1, h2] at e; cases e
      | some d' =>
        rw [h1, h2] at e
        simp only at e
        by_cases hs : SeqAt.shaped d = true ∧ SeqAt.shaped d' = true
        · rw [if_pos hs] at e
          cases e
          exact .inr ⟨d, d', dat_ok hG 12 v x d rv h1, dat_ok hG 12 w y d' rw' h2, hs.1, hs.2, rfl⟩
        · rw [if_neg hs] at e
          cases e
  cases rv with
  | int i =>
    cases rw' with
    | int j =>
      cases e
      exact .inl ⟨rfl, by simp⟩
    | _ => exact far e
  | str i =>
    cases rw' with
    | str j =>
      cases e
      exact .inl ⟨rfl, by simp⟩
    | _ => exact far e
  | bl i =>
    cases rw' with
    | bl j =>
      cases e
      exact .inl ⟨rfl, by simp⟩
    | _ => exact far e
  | non =>
    cases rw' with
    | non =>
      cases e
      exact .inl ⟨rfl, by simp⟩
    | _ => exact far e
  | _ => cases rw' <;> exact far e
def rEqA (K : PySem.W.Frag) : R2 := fun x y H Q => rEq x y H Q ∨ rEqD K x y H Q
def rNeA (K : PySem.W.Frag) : R2 := fun x y H Q => rNe x y H Q ∨ rNeD K x y H Q
theorem op_eqA {X : Cx} (hu : X.A.units + 64 < cLine) : OpR X (compareOp .Eq) (rEqA X.K) := op_eq.or (op_eqD hu)
theorem op_neA {X : Cx} (hu : X.A.units + 64 < cLine) : OpR X (compareOp .NotEq) (rNeA X.K) := op_ne.or (op_neD hu)
theorem op2_eq {K : PySem.W.Frag} : Op2 K (rEqA K) fEq := by
  intro W σ H μ G v w x y Q hG rv rw' q
  unfold fEq at q
  cases e : eqB G v w with
  | none => rw [e] at q; exact q.elim
  | some b =>
    rw [e] at q
    have q' := Po.now (v := AV.bl b) q hG (.bl b)
    rcases eqB_ok hG rv rw' e with ⟨h1, h2⟩ | ⟨d, d', h1, h2, h3, h4, h5⟩
    · exact .inl ⟨h1, by rw [← h2]; exact q'⟩
    · exact .inr ⟨d, d', h1, h2, h3, h4, by rw [← h5]; exact q'⟩
theorem op2_ne {K : PySem.W.Frag} : Op2 K (rNeA K) fNe := by
  intro W σ H μ G v w x y Q hG rv rw' q
  unfold fNe at q
  cases e : eqB G v w with
  | none => rw [e] at q; exact q.elim
  | some b =>
    rw [e] at q
    have q' := Po.now (v := AV.bl (!b)) q hG (.bl _)
    rcases eqB_ok hG rv rw' e with ⟨h1, h2⟩ | ⟨d, d', h1, h2, h3, h4, h5⟩
    · exact .inl ⟨h1, by rw [← h2]; exact q'⟩
    · exact .inr ⟨d, d', h1, h2, h3, h4, by rw [← h5]; exact q'⟩
def flatA : AV → Bool
  | .non => true
  | .bl _ => true
  | .int _ => true
  | .str _ => true
  | _ => false
def eqA : AV → AV → Bool
  | .non, .non => true
  | .bl a, .bl b => a == b
  | .bl a, .int b => (if a then 1 else 0) == b
  | .int a, .bl b => a == (if b then 1 else 0)
  | .int a, .int b => a == b
  | .str a, .str b => a == b
  | _, _ => false
theorem flat_ok {K : PySem.W.Frag} {H : Hp} {μ : Mu} {v : AV} {x : V} (r : RA K H μ v x) : flatA v = flatV x := by cases r <;> rfl
theorem flats_ok {K : PySem.W.Frag} {H : Hp} {μ : Mu} : ∀ {xs : List AV} {vs : List V}, RAs K H μ xs vs → xs.all flatA = vs.all flatV
  | _, _, .nil => rfl
  | _, _, .cons r t => by rw [List.all_cons, List.all_cons, flat_ok r, flats_ok t]
theorem eqA_ok {K : PySem.W.Frag} {H : Hp} {μ : Mu} {v w : AV} {x y : V} (r : RA K H μ v x) (r' : RA K H μ w y) : eqA v w = eqV x y := by cases r <;> cases r' <;> rfl
theorem any_ok {K : PySem.W.Frag} {H : Hp} {μ : Mu} {v : AV} {x : V} (r : RA K H μ v x) : ∀ {xs : List AV} {vs : List V}, RAs K H μ xs vs → (xs.any fun y => eqA y v) = inV x vs
  | _, _, .nil => rfl
  | _, _, .cons r' t => by
    unfold inV
    rw [List.any_cons, List.any_cons, eqA_ok r' r, any_ok r t]
    rfl
/-- the answer of v in w -/
def inB (G : Hs) (v w : AV) : Option Bool := match w with
  | .str z => match v with
    | .str s => if s.cps.size = 1 then some (decide (s.cps.toList.headD 0 ∈ z.cps.toList)) else some (!(Builtin.Str.occurrences z s 0 z.length 1).isEmpty)
    | _ => none
  | w => match seqOf G w with
    | some xs => if flatA v = true ∧ xs.all flatA = true then some (xs.any fun y => eqA y v) else
      match lstOf G w, dat 12 G v, allS (xs.map (dat 12 G)) with
      | some _, some d, some ds => if SeqAt.shaped d = true ∧ SeqAt.shaped (.list ds) = true then some (ds.any fun z => PyData.eqv z d) else none
      | _, _, _ => none
    | none => none
def fIn (v w : AV) (G : Hs) : R AV := match inB G v w with
  | some b => .ok (.bl b) G
  | none => .stuck
def fNin (v w : AV) (G : Hs) : R AV := match inB G v w with
  | some b => .ok (.bl (!b)) G
  | none => .stuck
abbrev rInS : R2 := fun x y H Q => ∃ i j, x = .str i ∧ y = .str j ∧ Q (.bl (!(Builtin.Str.occurrences j i 0 j.length 1).isEmpty)) H
abbrev rInC : R2 := fun x y H Q => ∃ (c : Nat) (z : Str), x = .str ⟨#[c]⟩ ∧ y = .str z ∧ Q (.bl (decide (c ∈ z.cps.toList))) H
abbrev rNinS : R2 := fun x y H Q => ∃ i j, x = .str i ∧ y = .str j ∧ Q (.bl (!(!(Builtin.Str.occurrences j i 0 j.length 1).isEmpty))) H
abbrev rNinC : R2 := fun x y H Q => ∃ (c : Nat) (z : Str), x = .str ⟨#[c]⟩ ∧ y = .str z ∧ Q (.bl (!decide (c ∈ z.cps.toList))) H
def rInA (K : PySem.W.Frag) : R2 := fun x y H Q => (rInS x y H Q ∨ rInC x y H Q) ∨ (rIn K false x y H Q ∨ rInD K x y H Q)
def rNinA (K : PySem.W.Frag) : R2 := fun x y H Q => (rNinS x y H Q ∨ rNinC x y H Q) ∨ (rIn K true x y H Q ∨ rNotInD K x y H Q)
theorem op_inA {X : Cx} (hu : X.A.units + 65 < cLine) : OpR X (compareOp .In) (rInA X.K) := (op_in_str.or op_in_sign).or (op_in_seq.or (op_inD hu))
theorem op_ninA {X : Cx} (hu : X.A.units + 65 < cLine) : OpR X (compareOp .NotIn) (rNinA X.K) := (op_notin_str.or op_notIn_sign).or (op_notIn_seq.or (op_notInD hu))
theorem str1 {s : Str} (h : s.cps.size = 1) : s = ⟨#[s.cps.toList.headD 0]⟩ := by
  obtain ⟨⟨l⟩⟩ := s
  cases l with
  | nil => cases h
  | cons c r =>
    cases r with
    | nil => rfl
    | cons d r =>
      have h' : (c :: d :: r).length = 1 := h
      simp at h'
theorem inB_ok {K : PySem.W.Frag} {H : Hp} {μ : Mu} {G : Hs} {v w : AV} {x y : V} {b : Bool} (hG : RH K H μ G) (rv : RA K H μ v x) (rw' : RA K H μ w y) (e : inB G v w = some b) :
    ((∃ i j, x = .str i ∧ y = .str j ∧ b = !(Builtin.Str.occurrences j i 0 j.length 1).isEmpty) ∨ ∃ (c : Nat) (z : Str), x = .str ⟨#[c]⟩ ∧ y = .str z ∧ b = decide (c ∈ z.cps.toList)) ∨
    ((∃ p xs, y = .ref p ∧ (SqL K H p xs ∨ SqT K H p xs) ∧ flatV x = true ∧ xs.all flatV = true ∧ b = inV x xs) ∨ ∃ d ds, Dp K H x d ∧ Dp K H y (.list ds) ∧ SeqAt.shaped d = true ∧ SeqAt.shaped (.list ds) = true ∧ b = ds.any fun z => PyData.eqv z d) := by
  have far : (match seqOf G w with
    | some xs => if flatA v = true ∧ xs.all flatA = true then some (xs.any fun y => eqA y v) else
      match lstOf G w, dat 12 G v, allS (xs.map (dat 12 G)) with
      | some _, some d, some ds => if SeqAt.shaped d = true ∧ SeqAt.shaped (.list ds) = true then some (ds.any fun z => PyData.eqv z d) else none
      | _, _, _ => none
    | none => none) = some b → ((∃ p xs, y = .ref p ∧ (SqL K H p xs ∨ SqT K H p xs) ∧ flatV x = true ∧ xs.all flatV = true ∧ b = inV x xs) ∨ ∃ d ds, Dp K H x d ∧ Dp K H y (.list ds) ∧ SeqAt.shaped d = true ∧ SeqAt.shaped (.list ds) = true ∧ b = ds.any fun z => PyData.eqv z d) := fun e => by
    cases h : seqOf G w with
    | none => rw [h] at e; cases e
    | some xs =>
      rw [h] at e
      simp only at e
      by_cases hf : flatA v = true ∧ xs.all flatA = true
      · rw [if_pos hf] at e
        cases e
        obtain ⟨a, vs, rfl, hs, rs⟩ := seqOf_ok hG rw' h
        exact .inl ⟨a, vs, rfl, hs, by rw [← flat_ok rv]; exact hf.1, by rw [← flats_ok rs]; exact hf.2, any_ok rv rs⟩
      · rw [if_neg hf] at e
        cases h1 : lstOf G w with
        | none => rw [h1] at e; cases e
        | some ys =>
          cases h2 : dat 12 G v with
          | none => rw [h1, h2] at e; cases e
          | some d =>
            cases h3 : allS (xs.map (dat 12 G)) with
            | none => rw [h1, h2, h3] at e; cases e
            | some ds =>
              rw [h1, h2, h3] at e
              simp only at e
              by_cases hs : SeqAt.shaped d = true ∧ SeqAt.shaped (.list ds) = true
              · rw [if_pos hs] at e
                cases e
                obtain ⟨a, vs, rfl, hq, rs⟩ := lstOf_ok hG rw' h1
                have exy : xs = ys := by
                  unfold seqOf at h
                  cases ht : tupOf w with
                  | some zs => cases w <;> first | (cases ht; done) | (cases h1; done)
                  | none =>
                    rw [ht] at h
                    exact Option.some.inj (h.symm.trans h1)
                subst exy
                exact .inr ⟨d, ds, dat_ok hG 12 v x d rv h2, .lst hq (dats_ok (fun v x d => dat_ok hG 12 v x d) rs h3), hs.1, hs.2, rfl⟩
              · rw [if_neg hs] at e
                cases e
  cases rw' with
  | str z =>
    cases rv with
    | str s =>
      simp only [inB] at e
      by_cases h1 : s.cps.size = 1
      · rw [if_pos h1] at e
        cases e
        exact .inl (.inr ⟨_, z, congrArg V.str (str1 h1), rfl, rfl⟩)
      · rw [if_neg h1] at e
        cases e
        exact .inl (.inl ⟨s, z, rfl, rfl, rfl⟩)
    | _ => cases e
  | _ => exact .inr (far e)
theorem op2_in {K : PySem.W.Frag} : Op2 K (rInA K) fIn := by
  intro W σ H μ G v w x y Q hG rv rw' q
  unfold fIn at q
  cases e : inB G v w with
  | none => rw [e] at q; exact q.elim
  | some b =>
    rw [e] at q
    have q' := Po.now (v := AV.bl b) q hG (.bl b)
    rcases inB_ok hG rv rw' e with (⟨i, j, h1, h2, h3⟩ | ⟨i, j, h1, h2, h3⟩) | (⟨i, j, h1, h2, h3, h4, h5⟩ | ⟨i, j, h1, h2, h3, h4, h5⟩)
    · exact .inl (.inl ⟨i, j, h1, h2, by rw [← h3]; exact q'⟩)
    · exact .inl (.inr ⟨i, j, h1, h2, by rw [← h3]; exact q'⟩)
    · exact .inr (.inl ⟨i, j, h1, h2, h3, h4, by rw [if_neg Bool.false_ne_true, ← h5]; exact q'⟩)
    · exact .inr (.inr ⟨i, j, h1, h2, h3, h4, by rw [← h5]; exact q'⟩)
theorem op2_nin {K : PySem.W.Frag} : Op2 K (rNinA K) fNin := by
  intro W σ H μ G v w x y Q hG rv rw' q
  unfold fNin at q
  cases e : inB G v w with
  | none => rw [e] at q; exact q.elim
  | some b =>
    rw [e] at q
    have q' := Po.now (v := AV.bl (!b)) q hG (.bl _)
    rcases inB_ok hG rv rw' e with (⟨i, j, h1, h2, h3⟩ | ⟨i, j, h1, h2, h3⟩) | (⟨i, j, h1, h2, h3, h4, h5⟩ | ⟨i, j, h1, h2, h3, h4, h5⟩)
    · exact .inl (.inl ⟨i, j, h1, h2, by rw [← h3]; exact q'⟩)
    · exact .inl (.inr ⟨i, j, h1, h2, by rw [← h3]; exact q'⟩)
    · exact .inr (.inl ⟨i, j, h1, h2, h3, h4, by rw [if_pos rfl, ← h5]; exact q'⟩)
    · exact .inr (.inr ⟨i, j, h1, h2, h3, h4, by rw [← h5]; exact q'⟩)
end Vz
namespace Vz
open PySem L2
section
variable {X : Cx} {W : WX} {a b c e : Expr} {es rest : List Expr} {ma mb mc : ME} {ta tb tc : MB} {ms : MEs} {pos : Pos}
/-- a value's truth -/
def truB (G : Hs) : AV → Option Bool
  | .non => some false
  | .bl b => some b
  | .int i => some (i != 0)
  | .str s => if s.length ≤ szl then some ((s.length : Int) != 0) else none
  | .tup xs => some (!xs.isEmpty)
  | .con xs => some (!xs.isEmpty)
  | .lk xs => some (!xs.isEmpty)
  | .ls xs => some (!xs.isEmpty)
  | .iv _ _ _ => none
  | .id _ xs => some (!xs.isEmpty)
  | .it _ _ => none
  | .xv _ _ _ => none
  | .ref n => match G[n]? with
    | some (.lst xs) => some (!xs.isEmpty)
    | some (.dk xs) => some (!xs.isEmpty)
    | _ => none
def asT (r : R AV) : R Bool := match r with
  | .ok v G => match truB G v with
    | some b => .ok b G
    | none => .stuck
  | .exc c d G => .exc c d G
  | .stuck => .stuck
def mTru (m : ME) : MB := fun ρ G => asT (m ρ G)
theorem isEmpty_RAs {K : PySem.W.Frag} {H : Hp} {μ : Mu} : ∀ {xs : List AV} {vs : List V}, RAs K H μ xs vs → (!xs.isEmpty) = !vs.isEmpty
  | _, _, .nil => rfl
  | _, _, .cons _ _ => rfl
theorem isEmpty_RF {K : PySem.W.Frag} {H : Hp} {μ : Mu} {κ : Type} {xs : List (κ × AV)} {vs : List (κ × V)} (h : RF K H μ xs vs) : (!xs.isEmpty) = !vs.isEmpty := by
  have h1 := h.1
  cases xs <;> cases vs <;> first | rfl | (simp at h1)
theorem truB_ok {K : PySem.W.Frag} {H : Hp} {μ : Mu} {G : Hs} {v : AV} {x : V} {b : Bool} (hG : RH K H μ G) (r : RA K H μ v x) (e : truB G v = some b) : TruV K x H b := by
  cases r with
  | non => cases e; rfl
  | bl k => cases e; rfl
  | int i => cases e; rfl
  | str s =>
    simp only [truB] at e
    by_cases h : s.length ≤ szl
    · rw [if_pos h] at e
      cases e
      exact ⟨h, rfl⟩
    · rw [if_neg h] at e
      cases e
  | tup h rs => cases e; exact .inr (.inl ⟨_, SqT.of h, isEmpty_RAs rs⟩)
  | con h rs => cases e; exact .inr (.inl ⟨_, h.sq, isEmpty_RAs rs⟩)
  | lk h rs => cases e; exact .inl ⟨_, h.sq, isEmpty_RAs rs⟩
  | ls h rs => cases e; exact .inl ⟨_, h.sq, isEmpty_RAs rs⟩
  | iv _ _ _ _ => cases e
  | id h _ _ rs => cases e; exact .inr (.inr ⟨_, h, by rw [isEmpty_RAs rs]; cases (by assumption : List (Key × V)) <;> rfl⟩)
  | it _ _ _ _ => cases e
  | xv0 _ _ => cases e
  | xv _ _ _ _ _ _ => cases e
  | ref h =>
    obtain ⟨o, ho, ro⟩ := hG.obj h
    simp only [truB, ho] at e
    cases o with
    | lst xs => cases e; obtain ⟨vs, h1, rs⟩ := ro; exact .inl ⟨vs, SqL.of h1, isEmpty_RAs rs⟩
    | dk xs => cases e; obtain ⟨ws, h1, rs⟩ := ro; exact .inr (.inr ⟨ws, h1, isEmpty_RF rs⟩)
    | _ => cases e
theorem st_tru (ha : SE X W a ma) (he : ∀ whole, isTrue a X.env whole = (do let v ← whole; standAt a.pos; holding [v] (truthy v))) : ST X W a (mTru ma) := by
  refine PT.imp (pt_truth ha he) fun σ H Q ⟨ρ, μ, G, hσ, hG, h⟩ => ⟨ρ, μ, G, hσ, hG, ?_⟩
  unfold mTru at h
  cases e : ma ρ G with
  | stuck => rw [e] at h; exact h
  | exc c d G' => rw [e] at h; exact h
  | ok v G1 =>
    rw [e] at h
    intro H1 μ1 x g hG1 r
    cases e2 : truB G1 v with
    | none => simp only [asT, e2] at h; exact h.elim
    | some b =>
      simp only [asT, e2] at h
      exact ⟨b, truB_ok hG1 r e2, h H1 μ1 b g hG1 rfl⟩
def mAnd (ta tb : MB) : MB := fun ρ G => (ta ρ G).bind fun k G1 => if k = true then tb ρ G1 else .ok false G1
def mOr (ta tb : MB) : MB := fun ρ G => (ta ρ G).bind fun k G1 => if k = true then .ok true G1 else tb ρ G1
def mNot (ta : MB) : MB := fun ρ G => (ta ρ G).bind fun k G1 => .ok (!k) G1
theorem sw_and1 (ha : ST X W a ta) : SW X W (.BoolOp .And [a] pos) ta := pw_and1 ha
theorem sw_or1 (ha : ST X W a ta) : SW X W (.BoolOp .Or [a] pos) ta := pw_or1 ha
theorem sw_and (ha : ST X W a ta) (hb : SW X W (.BoolOp .And (b :: rest) pos) tb) : SW X W (.BoolOp .And (a :: b :: rest) pos) (mAnd ta tb) := by
  refine PW.imp (pw_and ha hb) fun σ H Q ⟨ρ, μ, G, hσ, hG, h⟩ => tG.bind hσ hG h fun k G1 H1 μ1 k' g1 hσ1 hG1 ek h1 => ?_
  have ek : k = k' := ek
  subst ek
  cases k with
  | true => exact iteT ⟨ρ, μ1, G1, hσ1, hG1, h1⟩
  | false => exact iteF (Po.now (v := false) h1 hG1 rfl)
theorem sw_or (ha : ST X W a ta) (hb : SW X W (.BoolOp .Or (b :: rest) pos) tb) : SW X W (.BoolOp .Or (a :: b :: rest) pos) (mOr ta tb) := by
  refine PW.imp (pw_or ha hb) fun σ H Q ⟨ρ, μ, G, hσ, hG, h⟩ => tG.bind hσ hG h fun k G1 H1 μ1 k' g1 hσ1 hG1 ek h1 => ?_
  have ek : k = k' := ek
  subst ek
  cases k with
  | true => exact iteT (Po.now (v := true) h1 hG1 rfl)
  | false => exact iteF ⟨ρ, μ1, G1, hσ1, hG1, h1⟩
theorem sw_t (h : SW X W a ta) : ST X W a ta := PW.pt h
theorem st_not (ha : ST X W a ta) : ST X W (.UnaryOp .Not a pos) (mNot ta) := by
  refine PT.imp (pt_not ha) fun σ H Q ⟨ρ, μ, G, hσ, hG, h⟩ => tG.bind hσ hG h fun k G1 H1 μ1 k' g1 hσ1 hG1 ek h1 => ?_
  have ek : k = k' := ek
  subst ek
  exact Po.now (v := !k) h1 hG1 rfl
/-- and, or, not as values: of bools -/
def mAndV (ma mb : ME) : ME := fun ρ G => (asB (ma ρ G)).bind fun k G1 => if k = true then mb ρ G1 else .ok (.bl false) G1
def mOrV (ma mb : ME) : ME := fun ρ G => (asB (ma ρ G)).bind fun k G1 => if k = true then .ok (.bl true) G1 else mb ρ G1
def mNotV (ma : ME) : ME := fun ρ G => (asB (ma ρ G)).bind fun k G1 => .ok (.bl (!k)) G1
theorem tE_bool {K : PySem.W.Frag} {γ δ : Type} {rel' : Rel γ δ} {m : ME} {k : Bool → Hs → R γ} {ρ : En} {σ : St} {H : Hp} {μ : Mu} {G : Hs} {Q : δ → Hp → Prop} {Q1 : VK} (hσ : RS K H μ ρ σ) (hG : RH K H μ G)
    (h : Po K rel' W σ H μ ((asB (m ρ G)).bind k) Q) (n : ∀ b G1 H1 μ1, RS K H1 μ1 ρ σ → RH K H1 μ1 G1 → Po K rel' W σ H1 μ1 (k b G1) Q → Q1 (.bl b) H1) : tG K (rA K) W m σ H Q1 := by
  refine ⟨ρ, μ, G, hσ, hG, ?_⟩
  cases e : m ρ G with
  | stuck => rw [e] at h; exact h
  | exc c d G' => rw [e] at h; exact h
  | ok v G1 =>
    rw [e] at h
    cases v with
    | bl b =>
      intro H1 μ1 x g hG1 r
      cases r
      exact n b G1 H1 μ1 (hσ.gr g) hG1 (Po.gr g h)
    | _ => exact h.elim
theorem se_one {op : BoolOp} {m : ME} (h : SE X W a m) : SE X W (.BoolOp op [a] pos) m := pe_one h
theorem se_and (ha : SE X W a ma) (hb : SE X W (.BoolOp .And (b :: rest) pos) mb) : SE X W (.BoolOp .And (a :: b :: rest) pos) (mAndV ma mb) := by
  refine PE.imp (pe_and ha hb) fun σ H Q ⟨ρ, μ, G, hσ, hG, h⟩ => tE_bool hσ hG h fun k G1 H1 μ1 hσ1 hG1 h1 => ⟨k, rfl, ?_⟩
  cases k with
  | true => exact iteT ⟨ρ, μ1, G1, hσ1, hG1, h1⟩
  | false => exact iteF (Po.now (v := AV.bl false) h1 hG1 (.bl _))
theorem se_or (ha : SE X W a ma) (hb : SE X W (.BoolOp .Or (b :: rest) pos) mb) : SE X W (.BoolOp .Or (a :: b :: rest) pos) (mOrV ma mb) := by
  refine PE.imp (pe_or ha hb) fun σ H Q ⟨ρ, μ, G, hσ, hG, h⟩ => tE_bool hσ hG h fun k G1 H1 μ1 hσ1 hG1 h1 => ⟨k, rfl, ?_⟩
  cases k with
  | true => exact iteT (Po.now (v := AV.bl true) h1 hG1 (.bl _))
  | false => exact iteF ⟨ρ, μ1, G1, hσ1, hG1, h1⟩
theorem se_not (ha : SE X W a ma) : SE X W (.UnaryOp .Not a pos) (mNotV ma) :=
  PE.imp (pe_not ha) fun σ H Q ⟨ρ, μ, G, hσ, hG, h⟩ => tE_bool hσ hG h fun k G1 H1 μ1 hσ1 hG1 h1 => ⟨k, rfl, Po.now (v := AV.bl (!k)) h1 hG1 (.bl _)⟩
def mIte (tc : MB) (ma mb : ME) : ME := fun ρ G => (tc ρ G).bind fun k G1 => if k = true then ma ρ G1 else mb ρ G1
theorem se_ite (hc : ST X W c tc) (ha : SE X W a ma) (hb : SE X W b mb) : SE X W (.IfExp c a b pos) (mIte tc ma mb) := by
  refine PE.imp (pe_ifExp hc ha hb) fun σ H Q ⟨ρ, μ, G, hσ, hG, h⟩ => tG.bind hσ hG h fun k G1 H1 μ1 k' g1 hσ1 hG1 ek h1 => ?_
  have ek : k = k' := ek
  subst ek
  cases k with
  | true => exact iteT ⟨ρ, μ1, G1, hσ1, hG1, h1⟩
  | false => exact iteF ⟨ρ, μ1, G1, hσ1, hG1, h1⟩
def fNeg : AV → Hs → R AV
  | .int i, G => .ok (.int (-i)) G
  | _, _ => .stuck
def m1 (f : AV → Hs → R AV) (ma : ME) : ME := fun ρ G => (ma ρ G).bind fun v G1 => f v G1
theorem se_neg (ha : SE X W a ma) : SE X W (.UnaryOp .USub a pos) (m1 fNeg ma) := by
  refine PE.imp (pe_un un_neg ha) fun σ H Q ⟨ρ, μ, G, hσ, hG, h⟩ => tG.bind hσ hG h fun v G1 H1 μ1 x g1 hσ1 hG1 r h1 => ?_
  cases r with
  | int i => exact ⟨i, rfl, Po.now (v := AV.int (-i)) h1 hG1 (.int _)⟩
  | _ => exact h1.elim
def mNil : MEs := fun _ G => .ok [] G
def mCons (m : ME) (ms : MEs) : MEs := fun ρ G => (m ρ G).bind fun v G1 => (ms ρ G1).bind fun vs G2 => .ok (v :: vs) G2
theorem sa_nil : SA X W [] mNil := PA.imp pa_nil fun σ H Q ⟨ρ, μ, G, hσ, hG, h⟩ => Po.now (v := ([] : List AV)) h hG .nil
theorem sa_cons (ha : SE X W e ma) (hr : SA X W es ms) (hs : starEach (e :: es) X.env = (false, eval e X.env) :: starEach es X.env := by rfl) : SA X W (e :: es) (mCons ma ms) :=
  PA.imp (pa_cons ha hr hs) fun σ H Q ⟨ρ, μ, G, hσ, hG, h⟩ => tG.bind hσ hG h fun v G1 H1 μ1 x g1 hσ1 hG1 r h1 => tG.bind hσ1 hG1 h1 fun vs G2 H2 μ2 xs g2 hσ2 hG2 rs h2 =>
    Po.now (v := v :: vs) h2 hG2 (.cons (r.gr g2) rs)
def mTup (ms : MEs) : ME := fun ρ G => (ms ρ G).bind fun vs G1 => if vs.length ≤ szl then .ok (.tup vs) G1 else .stuck
def mLst (ms : MEs) : ME := fun ρ G => (ms ρ G).bind fun vs G1 => if vs.length ≤ szl then .ok (.ref G1.length) (G1 ++ [.lst vs]) else .stuck
theorem se_tup {k : Nat} (h : SA X W es ms) : SE X W (.Tuple es k pos) (mTup ms) := by
  refine PE.imp (pe_tup h) fun σ H Q ⟨ρ, μ, G, hσ, hG, h⟩ => tG.bind hσ hG h fun vs G1 H1 μ1 xs g1 hσ1 hG1 rs h1 => ?_
  by_cases hz : vs.length ≤ szl
  · simp only [if_pos hz] at h1
    exact ⟨by rw [← rs.length]; exact hz, fun p hp => h1 _ _ _ (Gr.new hp) (hG1.new hp) (.tup upd_same (rs.gr (Gr.new hp)))⟩
  · simp only [if_neg hz] at h1
    exact h1.elim
theorem se_lst (h : SA X W es ms) : SE X W (.List es pos) (mLst ms) := by
  refine PE.imp (pe_lst h) fun σ H Q ⟨ρ, μ, G, hσ, hG, h⟩ => tG.bind hσ hG h fun vs G1 H1 μ1 xs g1 hσ1 hG1 rs h1 => ?_
  by_cases hz : vs.length ≤ szl
  · simp only [if_pos hz] at h1
    exact ⟨by rw [← rs.length]; exact hz, fun p hp => h1 _ _ _ (Gr.alloc hp) (hG1.alloc hp ⟨_, upd_same, rs.gr (Gr.alloc hp)⟩) (.ref (hG1.fresh p))⟩
  · simp only [if_neg hz] at h1
    exact h1.elim
def fIx : AV → AV → Hs → R AV
  | .str s, .int i, G => if s.length ≤ szl then match atI s.cps.toList i with
      | some c => .ok (.str ⟨#[c]⟩) G
      | none => .stuck
    else .stuck
  | v, .int i, G => match seqOf G v with
    | some xs => match atI xs i with
      | some w => .ok w G
      | none => .stuck
    | none => .stuck
  | _, _, _ => .stuck
theorem atI_ok {K : PySem.W.Frag} {H : Hp} {μ : Mu} {xs : List AV} {vs : List V} {i : Int} {w : AV} (rs : RAs K H μ xs vs) (h : atI xs i = some w) : ∃ y, atI vs i = some y ∧ RA K H μ w y := by
  unfold atI at h ⊢
  rw [← rs.length]
  cases e : ixN xs.length i with
  | none => rw [e] at h; cases h
  | some j =>
    rw [e] at h
    exact rs.get' h
theorem fIx_seq {v : AV} {i : Int} {G : Hs} (h : ∀ s, v ≠ .str s) : fIx v (.int i) G = (match seqOf G v with
    | some xs => match atI xs i with
      | some w => .ok w G
      | none => .stuck
    | none => .stuck) := by
  cases v <;> first | rfl | exact absurd rfl (h _)
theorem op2_ix {K : PySem.W.Frag} : Op2 K (rIx K) fIx := by
  intro W σ H μ G v w x y Q hG rv rw' q
  cases rw' with
  | int i =>
    by_cases hs : ∃ s, v = .str s
    · obtain ⟨s, rfl⟩ := hs
      cases rv
      simp only [fIx] at q
      by_cases hz : s.length ≤ szl
      · rw [if_pos hz] at q
        cases e : atI s.cps.toList i with
        | none => rw [e] at q; exact q.elim
        | some c => rw [e] at q; exact .inr (.inr ⟨s, i, c, rfl, rfl, hz, e, Po.now (v := AV.str ⟨#[c]⟩) q hG (.str _)⟩)
      · rw [if_neg hz] at q
        exact q.elim
    · rw [fIx_seq fun s e => hs ⟨s, e⟩] at q
      cases e : seqOf G v with
      | none => rw [e] at q; exact q.elim
      | some xs =>
        rw [e] at q
        cases e2 : atI xs i with
        | none => simp only [e2] at q; exact q.elim
        | some u =>
          simp only [e2] at q
          obtain ⟨a, vs, rfl, h, rs⟩ := seqOf_ok hG rv e
          obtain ⟨z, h2, rz⟩ := atI_ok rs e2
          rcases h with h | h
          · exact .inl ⟨a, vs, i, z, rfl, rfl, h, h2, Po.now (v := u) q hG rz⟩
          · exact .inr (.inl ⟨a, vs, i, z, rfl, rfl, h, h2, Po.now (v := u) q hG rz⟩)
  | _ => cases v <;> exact q.elim
theorem se_ix (ha : SE X W a ma) (hb : SE X W b mb) (hs : PlainIx b) : SE X W (.Subscript a b pos) (m2 fIx ma mb) :=
  PE.imp (pe_ix ix_seq ha hb hs) fun σ H Q h => op2_go op2_ix h
def cutA (xs : List AV) (lo hi : Option Int) : List AV := (xs.drop (HT.sIx xs.length 0 lo)).take (HT.sIx xs.length xs.length hi - HT.sIx xs.length 0 lo)
def fSl (v : AV) (lo hi : Option Int) (G : Hs) : R AV := match v with
  | .str s => if s.length ≤ szl then .ok (.str (cutS s lo hi)) G else .stuck
  | v => match tupOf v with
    | some xs => if HT.sIx xs.length 0 lo = 0 ∧ HT.sIx xs.length xs.length hi = xs.length then .ok v G else .ok (.tup (cutA xs lo hi)) G
    | none => match lstOf G v with
      | some xs => .ok (.ref G.length) (G ++ [.lst (cutA xs lo hi)])
      | none => .stuck
abbrev MO := En → Hs → R (Option Int)
abbrev rOp : Rel (Option Int) (Option Int) := fun _ _ a b => a = b
def SO (X : Cx) (W : WX) (e : Option Expr) (m : MO) : Prop := PO X e (tG X.K rOp W m)
def mNone : MO := fun _ G => .ok none G
def mSome (m : ME) : MO := fun ρ G => (m ρ G).bind fun v G1 => match v with
  | .int i => .ok (some i) G1
  | _ => .stuck
theorem PO.imp {X : Cx} {e : Option Expr} {t t' : TO} (h : PO X e t) (i : ∀ σ H Q, t' σ H Q → t σ H Q) : PO X e t' := ⟨fun pins s σ H Q I w => h.run pins s σ H Q I (i σ H Q w)⟩
theorem so_none : SO X W none mNone := PO.imp po_none fun σ H Q ⟨ρ, μ, G, hσ, hG, h⟩ => Po.now (v := (none : Option Int)) h hG rfl
theorem so_some (ha : SE X W a ma) : SO X W (some a) (mSome ma) := by
  refine PO.imp (po_some ha) fun σ H Q ⟨ρ, μ, G, hσ, hG, h⟩ => tG.bind hσ hG h fun v G1 H1 μ1 x g1 hσ1 hG1 r h1 => ?_
  cases r with
  | int i => exact ⟨i, rfl, Po.now (v := some i) h1 hG1 rfl⟩
  | _ => exact h1.elim
def mSl (ma : ME) (ml mh : MO) : ME := fun ρ G => (ma ρ G).bind fun v G1 => (ml ρ G1).bind fun lo G2 => (mh ρ G2).bind fun hi G3 => fSl v lo hi G3
theorem cut_ok {K : PySem.W.Frag} {H : Hp} {μ : Mu} {xs : List AV} {vs : List V} (rs : RAs K H μ xs vs) (lo hi : Option Int) : RAs K H μ (cutA xs lo hi) (cutV vs lo hi) := by
  unfold cutA cutV
  rw [rs.length]
  exact (rs.drop _).take _
theorem se_slice {lo hi : Option Expr} {ml mh : MO} {p2 : Pos} (ha : SE X W a ma) (hl : SO X W lo ml) (hh : SO X W hi mh) : SE X W (.Subscript a (.Slice lo hi none p2) pos) (mSl ma ml mh) := by
  refine PE.imp (pe_slice (sl_str.or (sl_tupA.or sl_list)) ha hl hh) fun σ H Q ⟨ρ, μ, G, hσ, hG, h⟩ => tG.bind hσ hG h fun v G1 H1 μ1 x g1 hσ1 hG1 r h1 =>
    tG.bind hσ1 hG1 h1 fun l G2 H2 μ2 l' g2 hσ2 hG2 el h2 => tG.bind hσ2 hG2 h2 fun u G3 H3 μ3 u' g3 hσ3 hG3 eu h3 => ?_
  have el : l = l' := el
  have eu : u = u' := eu
  subst el eu
  have r3 := (r.gr g2).gr g3
  have h3 : Po X.K (rA X.K) W σ H3 μ3 (fSl v l u G3) Q := h3
  have seq : (∀ s, v ≠ .str s) → rSlA X.K x l u H3 Q ∨ rSlL X.K x l u H3 Q := fun hs => by
    have e0 : fSl v l u G3 = (match tupOf v with
      | some xs => if HT.sIx xs.length 0 l = 0 ∧ HT.sIx xs.length xs.length u = xs.length then .ok v G3 else .ok (.tup (cutA xs l u)) G3
      | none => match lstOf G3 v with
        | some xs => .ok (.ref G3.length) (G3 ++ [.lst (cutA xs l u)])
        | none => .stuck) := by cases v <;> first | rfl | exact absurd rfl (hs _)
    rw [e0] at h3
    cases e : tupOf v with
    | some xs =>
      rw [e] at h3
      obtain ⟨p, vs, rfl, hq, rs⟩ := tupOf_ok r3 e
      refine .inl ⟨p, vs, rfl, hq, fun hw => ?_, fun hw q hqn => ?_⟩
      · rw [← rs.length] at hw
        simp only [if_pos hw] at h3
        exact Po.now (v := v) h3 hG3 r3
      · rw [← rs.length] at hw
        simp only [if_neg hw] at h3
        exact h3 _ _ _ (Gr.new hqn) (hG3.new hqn) (.tup upd_same ((cut_ok rs l u).gr (Gr.new hqn)))
    | none =>
      rw [e] at h3
      cases e2 : lstOf G3 v with
      | none => simp only [e2] at h3; exact h3.elim
      | some xs =>
        simp only [e2] at h3
        obtain ⟨p, vs, rfl, hq, rs⟩ := lstOf_ok hG3 r3 e2
        exact .inr ⟨p, vs, rfl, hq, fun q hqn => h3 _ _ _ (Gr.alloc hqn) (hG3.alloc hqn ⟨_, upd_same, (cut_ok rs l u).gr (Gr.alloc hqn)⟩) (.ref (hG3.fresh q))⟩
  by_cases hs : ∃ s, v = .str s
  · obtain ⟨s, rfl⟩ := hs
    cases r3
    simp only [fSl] at h3
    by_cases hz : s.length ≤ szl
    · rw [if_pos hz] at h3
      exact .inl ⟨s, rfl, hz, Po.now (v := AV.str (cutS s l u)) h3 hG3 (.str _)⟩
    · rw [if_neg hz] at h3
      exact h3.elim
  · exact .inr (seq fun s e => hs ⟨s, e⟩)
/-- the class c has no attribute f of its own, and is read as plain classes are -/
def attrOk (f : Str) (c : Str) (K : PySem.W.Frag) : Bool := (He.Fa.cls c).ok K && (He.Fa.noat c f).ok K
theorem attrOk_ok {K : PySem.W.Frag} {c f : Str} (h : attrOk f c K = true) : Cls K (ga K c) ∧ NoAttr K (ga K c) f := by
  obtain ⟨h1, h2⟩ := He.ba h
  exact ⟨He.cls_ok h1, He.noat_ok h2⟩
def fFld (cs : List Str) (f : Str) : AV → Hs → R AV
  | .ref n, G => match G[n]? with
    | some (.ins c fs) => if c ∈ cs then match fs.lookup f with
        | some v => .ok v G
        | none => .stuck
      else .stuck
    | _ => .stuck
  | .iv c ns xs, G => if c ∈ cs then match (ns.zip xs).lookup f with
    | some v => .ok v G
    | none => .stuck
    else .stuck
  | _, _ => .stuck
theorem RF.zip {K : PySem.W.Frag} {H : Hp} {μ : Mu} {κ : Type} {ns : List κ} {gs : List (κ × V)} {xs : List AV} (e : ns = gs.map (·.1)) (h : RAs K H μ xs (gs.map (·.2))) : RF K H μ (ns.zip xs) gs := by
  have hl : ns.length = xs.length := by
    rw [h.length, e, List.length_map, List.length_map]
  unfold RF
  rw [List.map_fst_zip (Nat.le_of_eq hl), List.map_snd_zip (Nat.le_of_eq hl.symm)]
  exact ⟨e, h⟩
theorem RF.look {K : PySem.W.Frag} {H : Hp} {μ : Mu} {κ : Type} [BEq κ] {f : κ} : ∀ {fs : List (κ × AV)} {gs : List (κ × V)}, RF K H μ fs gs → ∀ {v : AV}, fs.lookup f = some v → ∃ x, gs.lookup f = some x ∧ RA K H μ v x
  | [], _, _, _, e => by cases e
  | (k, v0) :: fs, [], h, _, _ => by cases h.1
  | (k, v0) :: fs, (k', x0) :: gs, h, v, e => by
    obtain ⟨h1, h2⟩ := h
    rw [List.map_cons, List.map_cons] at h1
    injection h1 with e1 e2
    have e1 : k = k' := e1
    subst e1
    cases h2 with
    | cons r t =>
      rw [List.lookup_cons] at e ⊢
      cases q : (f == k) with
      | true =>
        rw [q] at e
        cases e
        exact ⟨x0, rfl, r⟩
      | false =>
        rw [q] at e
        exact RF.look ⟨e2, t⟩ e
theorem se_fld {f : Str} (cs : List Str) (hc : (cs.all fun c => attrOk f c X.K) = true) (ha : SE X W a ma) (hb : attributeBase a f X.env (eval a X.env) = eval a X.env) : SE X W (.Attribute a f pos) (m1 (fFld cs f) ma) := by
  refine PE.imp (pe_fld ha hb) fun σ H Q ⟨ρ, μ, G, hσ, hG, h⟩ => tG.bind hσ hG h fun v G1 H1 μ1 x g1 hσ1 hG1 r h1 => ?_
  cases r with
  | ref h2 =>
    obtain ⟨o, ho, ro⟩ := hG1.obj h2
    simp only [fFld, ho] at h1
    cases o with
    | ins c fs =>
      simp only at h1
      by_cases hm : c ∈ cs
      · rw [if_pos hm] at h1
        cases e : fs.lookup f with
        | none => rw [e] at h1; exact h1.elim
        | some u =>
          rw [e] at h1
          obtain ⟨dx, gs, h3, h4⟩ := ro
          obtain ⟨z, h5, rz⟩ := h4.look e
          obtain ⟨k1, k2⟩ := attrOk_ok (List.all_eq_true.mp hc c hm)
          exact ⟨_, _, dx, gs, z, rfl, h3, k1, k2, h5, Po.now (v := u) h1 hG1 rz⟩
      · rw [if_neg hm] at h1
        exact h1.elim
    | _ => exact h1.elim
  | iv h3 h3n en rs =>
    rename_i a dx c ns gs xs
    simp only [fFld] at h1
    by_cases hm : c ∈ cs
    · rw [if_pos hm] at h1
      cases e : (ns.zip xs).lookup f with
      | none => rw [e] at h1; exact h1.elim
      | some u =>
        rw [e] at h1
        obtain ⟨z, h5, rz⟩ := (RF.zip en rs).look e
        obtain ⟨k1, k2⟩ := attrOk_ok (List.all_eq_true.mp hc c hm)
        exact ⟨_, _, dx, gs, z, rfl, h3, k1, k2, h5, Po.now (v := u) h1 hG1 rz⟩
    · rw [if_neg hm] at h1
      exact h1.elim
  | _ => exact h1.elim
end
end Vz
namespace Vz
open PySem PySem.Spec L2 PyProof.Rows
/-- room, and no repr under way -/
structure Rm (k : Nat) (A : Around) : Prop where
  rm : Room k A
  gd : A.guards = some []
section
variable {k j : Nat} {A : Around}
theorem Rm.mono (r : Rm k A) (h : j ≤ k) : Rm j A := ⟨r.rm.mono h, r.gd⟩
theorem Rm.deeper (r : Rm (k + 1) A) (env : Env) : Rm k (A.deeper env) := ⟨r.rm.deeper env, r.gd⟩
theorem Rm.in1 (r : Rm (k + 1) A) : Rm k A.in1 := ⟨r.rm.in1, r.gd⟩
theorem Rm.make (r : Rm (k + 1) A) (C : Addr) (us : List Value) (kw : List (Str × Value)) : Rm k (A.under (.builtin "type.__call__" ⟨.ref C :: us, kw⟩)) :=
  ⟨r.rm.make C us kw, by first | exact r.gd | (show pushGuards _ A.guards = _; rw [pushGuards_eq, r.gd]; rfl)⟩
theorem Rm.uu (r : Rm k A) (n : Nat) (hn : n ≤ 199) : A.units + n < cLine := by
  have := r.rm.un
  omega
end
/-- a def keeps its promise, at every such place -/
structure FnG (P : Program) (w : World) (K : PySem.W.Frag) (mg : Str → Option Value) (base : Heap) (CX : CXT) (k : Nat) (f : Addr) (fd : FuncData) (ps : List Str) (sp : Sp) : Prop where
  len : ∀ vs H Q E, sp vs H Q E → vs.length = ps.length
  run : ∀ (A : Around) (out : List Env) (s : Shared) (H : Hp) (ar : Args) (us : List Value) (vs : List V) (Q : VK) (E : XK), Rm k A → Env0 P w K mg base A out s H → BindsTo s fd ar (ps.zip us) → Vals vs us → sp vs H Q E →
    codeAny (model P w) A (.call (.ref f) ar) (CR CX out P w H s Q E) s
section
variable {CX : CXT} {P : Program} {w : World} {K : PySem.W.Frag} {mg : Str → Option Value} {base : Heap} {k : Nat} {f : Addr} {fd : FuncData} {N ps : List Str} {sp : Sp}
theorem FnG.mono {j : Nat} (F : FnG P w K mg base CX j f fd ps sp) (h : j ≤ k) : FnG P w K mg base CX k f fd ps sp :=
  ⟨F.len, fun A out s H ar us vs Q E hr => F.run A out s H ar us vs Q E (hr.mono h)⟩
theorem fnG_of {x qual : Str} {params : Arguments} {body : List Stmt} {scope : Scope} {dvs : List V} {kws : List (Str × V)} (D : FunD K x qual params body scope dvs kws f fd) (S : FnScope N ps scope) (len : ∀ vs H Q E, sp vs H Q E → vs.length = ps.length)
    (go : ∀ (cdv : Value) (A : Around) (out : List Env) (s : Shared) (H : Hp) (vs : List V) (Q : VK) (E : XK), Rm k (A.deeper (envOfC qual scope s.heap.objs.size f cdv)) → sp vs H Q E →
      ∃ t, PSs (cxOf CX P w K mg base N qual scope f cdv A out s H E) body t ∧ t { nx := fun _ H1 => Q .non H1, rt := Q } (start N vs) H) : FnG P w K mg base CX (k + 1) f fd ps sp := by
  obtain ⟨oc, od, dV, kV, doc, pm, an, cdv, ct, osl, rfl, lk, hc, _, _⟩ := D.ex
  refine ⟨len, fun A out s H ar us vs Q E hr e hb rv hs => ?_⟩
  have inK : K.In s.heap := e.mod.kin.keeps fun b o q => (e.bs b o q).1
  have noL : s.heap.NoLimit := e.mod.nolimit.keeps fun b o q => (e.bs b o q).1
  refine codeAny_call_function hr.rm.depth (inK _ _ lk) rfl S.co S.gen rfl (PySem.W.codeRec_of inK hc) (hb _ _ _ _ ?_)
  refine wpAny_newFunctionEnv_cells S.kind (fun ⟨y, v⟩ hy => ?_) fun en q s1 inC => ?_
  · cases S.par y (List.of_mem_zip hy).1 with
    | inl q => exact Or.inl q
    | inr q => exact Or.inr ⟨q, PySem.W.cellsFrom_some _ _ _ (Or.inl q)⟩
  cases q
  refine ⟨noL.keeps inC.toInCall.keep, codeAny_func ?_⟩
  obtain ⟨t, pt, wt⟩ := go cdv A out s H vs Q E (hr.deeper _) hs
  have I := inv_start (CX := CX) (E := E) (N := N) S hr.rm.hd e (len _ _ _ _ hs) rv inC
  refine wpAny_mono (pt.run [] s1 (start N vs) H _ I wt) (fun fl s2 z => ?_) fun _ _ z => z
  match fl, z with
  | .ret u, ⟨v, _, H1, J, rv1, q⟩ => exact ⟨v, H1, J.os, J.bare, J.base, J.hok, rv1, q⟩
  | .next, ⟨_, H1, J, q⟩ => exact ⟨V.non, H1, J.os, J.bare, J.base, J.hok, (rfl : RelV V.non Value.none), q⟩
  | .brk, ⟨_, _, _, q⟩ => exact q.elim
  | .cont, ⟨_, _, _, q⟩ => exact q.elim
end
section
variable {P : Program} {w : World} {K : PySem.W.Frag} {mg mb : Str → Option Value} {CX : CXT} {k : Nat} {fa a : Addr} {fd : FuncData} {x : Str} {sp : Sp} {s1 : Shared} {vs : List Value} {ns : List Int}
abbrev EndsTrue (s1 : Shared) (r : Result) (s2 : Shared) : Prop := r = .ok (.ret (.bool true)) ∧ OldK s1.heap s2.heap ∧ s2.os = s1.os ∧ AllBare s2.gens
theorem lawG_at (H : Hp) (only : Only H) (seen : SqL K H a (ns.map V.int)) (hok : HOk P w H s1.heap) (alone : ∀ b, H b ≠ none → b = a) (apart : H a ≠ none → K.lookup a = none)
    (inK : K.In s1.heap) (nsg : s1.heap.Ns mainGlobals mg) (nsb : s1.heap.Ns builtinsNs mb) (boot : ∀ y : Str, y ≠ "__name__" → mb y = bootBuiltins y) (noL : s1.heap.NoLimit) (gens : s1.gens = #[])
    (at_ : s1.heap.get? a = some { cls := .type "list", data := .seq vs.toArray }) (room : Rm k callerA)
    (F : ∀ base : Heap, K.In base → base.Ns mainGlobals mg → FnG P w K mg base CX k fa fd [x] sp) (binds : ∀ (s : Shared) (u : Value), BindsTo s fd ⟨[u], []⟩ [(x, u)])
    (wish : sp [.ref a] H (fun v _ => v = .bl true) fun _ _ _ => False) (noX : ∀ H e s2, CX [] H s1 (fun _ _ _ => False) e s2 → False) :
    codeAny (model P w) callerA (.call (.ref fa) ⟨[.ref a], []⟩) (EndsTrue s1) s1 := by
  have free : ∀ {b : Addr}, b ≠ a → H b = none := fun {b} ne => Classical.byContradiction fun z => ne (alone b z)
  have low : ∀ {b : Addr} {o : Obj}, s1.heap.get? b = some o → H b = none → (hidT s1.heap H).get? b = some o := fun q z => hidT_get q z
  have isNs : ∀ {b : Addr} {m : Str → Option Value}, s1.heap.Ns b m → (hidT s1.heap H).Ns b m := fun {b m} ⟨o, es, ep, q, d, z⟩ =>
    ⟨o, es, ep, low q (free fun ba => by rw [ba, at_] at q; cases q; exact absurd (show Data.seq vs.toArray _ = Data.dict es ep from d) (by intro h; cases h)), d, z⟩
  have inB : K.In (hidT s1.heap H) := fun b o q => low (inK b o q) (Classical.byContradiction fun z => by
    have ba := alone b z
    rw [ba] at q z
    rw [apart z] at q
    cases q)
  have modB : Mod K mg (hidT s1.heap H) := ⟨inB, isNs nsg, ⟨mb, isNs nsb, boot⟩, noL.elim fun mc z => ⟨mc, isNs z.1, z.2⟩⟩
  have start0 : Env0 P w K mg (hidT s1.heap H) callerA [] s1 H := ⟨rfl, modB, fun b o q => of_hidT q, Nat.le_of_eq (hidT_size _ _), True.intro, fun b z => (List.not_mem_nil z).elim, hok, AllBare.of_eq gens⟩
  have ran := (F _ inB (isNs nsg)).run callerA [] s1 H ⟨[.ref a], []⟩ [.ref a] [.ref a] _ _ room start0 (binds s1 (.ref a)) (Paired.cons rfl Paired.nil) wish
  refine codeAny_mono ran fun r s2 z => ?_
  match r, z with
  | .error e, z => exact (noX H e s2 z).elim
  | .ok .next, z => exact z.elim
  | .ok .brk, z => exact z.elim
  | .ok .cont, z => exact z.elim
  | .ok (.ret u), ⟨v, H2, os, bare, un, hok2, rv, q⟩ =>
    cases (show v = .bl true from q)
    cases (show u = Value.bool true from rv)
    refine ⟨rfl, OldK.of_keep fun b o q => ?_, os, bare⟩
    cases hb : H b with
    | none => exact un.keep b o q hb (fun z => (List.not_mem_nil z).elim) List.not_mem_nil
    | some u =>
      cases only b with
      | inl z => rw [hb] at z; cases z
      | inr z =>
        obtain ⟨ob, xs, z⟩ := z
        have o1 := (hok b _ z).1
        have o2 := (hok2 b _ (un.frzs b ob _ z)).1
        rw [q] at o1
        cases o1
        exact o2
theorem lawG_call (inK : K.In s1.heap) (nsg : s1.heap.Ns mainGlobals mg) (nsb : s1.heap.Ns builtinsNs mb) (boot : ∀ y : Str, y ≠ "__name__" → mb y = bootBuiltins y) (noL : s1.heap.NoLimit) (gens : s1.gens = #[])
    (at_ : s1.heap.get? a = some { cls := .type "list", data := .seq vs.toArray }) (isI : IntsAre vs ns) (short : ns.length ≤ sizeLine) (room : Rm k callerA)
    (F : ∀ base : Heap, K.In base → base.Ns mainGlobals mg → FnG P w K mg base CX k fa fd [x] sp) (binds : ∀ (s : Shared) (u : Value), BindsTo s fd ⟨[u], []⟩ [(x, u)])
    (wish : ∀ H : Hp, Only H → SqL K H a (ns.map V.int) → sp [.ref a] H (fun v _ => v = .bl true) fun _ _ _ => False) (noX : ∀ H e s2, CX [] H s1 (fun _ _ _ => False) e s2 → False) :
    codeAny (model P w) callerA (.call (.ref fa) ⟨[.ref a], []⟩) (EndsTrue s1) s1 := by
  have rel := vals_ints isI
  cases hk : K.lookup a with
  | some o =>
    have q := inK a o hk
    rw [at_] at q
    cases q
    have only0 : Only (fun _ => none) := fun _ => Or.inl rfl
    have seen0 : SqL K (fun _ => none) a (ns.map V.int) := Or.inr ⟨_, vs.toArray, _, hk, rfl, rfl, rfl, by rw [List.size_toArray, isI.length]; exact short, by simpa using rel⟩
    exact lawG_at _ only0 seen0 (fun b u z => nomatch z) (fun b z => (z rfl).elim) (fun z => (z rfl).elim) inK nsg nsb boot noL gens at_ room F binds (wish _ only0 seen0) noX
  | none =>
    let ob : Obj := { cls := .type "list", data := .seq vs.toArray }
    let H1 : Hp := upd (fun _ => none) a (.frz ob (.lst (ns.map V.int)))
    have here : H1 a = some (.frz ob (.lst (ns.map V.int))) := upd_same
    have there : ∀ b, b ≠ a → H1 b = none := fun b ne => upd_ne ne
    have only1 : Only H1 := fun b => (Classical.em (b = a)).elim (fun e => Or.inr ⟨_, _, e ▸ here⟩) fun ne => Or.inl (there b ne)
    have seen1 : SqL K H1 a (ns.map V.int) := Or.inl (Or.inr ⟨ob, here⟩)
    have ok1 : HOk P w H1 s1.heap := fun b u z => by
      cases Classical.em (b = a) with
      | inl e =>
        subst e
        rw [here] at z
        cases z
        exact ⟨at_, by rw [List.length_map]; exact short, vs, _, rel, at_⟩
      | inr ne => rw [there b ne] at z; cases z
    exact lawG_at H1 only1 seen1 ok1 (fun b z => Classical.byContradiction fun ne => z (there b ne)) (fun _ => hk) inK nsg nsb boot noL gens at_ room F binds (wish _ only1 seen1) noX
end
end Vz
namespace Vz
open PySem PySem.Spec L2
open PyProof.Rows (envOfC)
section
variable {X : Cx} {W : WX} {a b c e o : Expr} {es rest : List Expr} {ma mb mc mo : ME} {ms : MEs} {pos p apos cpos : Pos} {x : Str}
def OpN (K : PySem.W.Frag) (r : List V → Hp → VK → Prop) (f : List AV → Hs → R AV) : Prop := ∀ (W : WX) σ H μ G vs xs Q, RH K H μ G → RAs K H μ vs xs → Po K (rA K) W σ H μ (f vs G) Q → r xs H Q
def mBlt (f : List AV → Hs → R AV) (ms : MEs) : ME := fun ρ G => (ms ρ G).bind fun vs G1 => f vs G1
theorem opN_go {r : List V → Hp → VK → Prop} {f : List AV → Hs → R AV} (hf : OpN X.K r f) {σ : St} {H : Hp} {Q : VK} (h : tG X.K (rA X.K) W (mBlt f ms) σ H Q) : tCB r (tG X.K (rAs X.K) W ms) σ H Q := by
  obtain ⟨ρ, μ, G, hσ, hG, h⟩ := h
  exact tG.bind hσ hG h fun vs G1 H1 μ1 xs g1 hσ1 hG1 rs h1 => hf W σ H1 μ1 G1 vs xs Q hG1 rs h1
theorem se_blt {id : String} {r : List V → Hp → VK → Prop} {f : List AV → Hs → R AV} (hc : CallR X (.builtin id) r) (hf : OpN X.K r f) (hg : Gl X x) (hm : X.mg x = none) (hv : bootBuiltins x = some (.builtin id)) (ha : SA X W (e :: es) ms)
    (hn : x ≠ "__name__" := by decide) (hdb : (x == ("__debug__" : Str)) = false := by decide)
    (he : starEach (e :: es) X.env = (false, eval e X.env) :: starEach es X.env := by rfl) (hpl : (backTo pos (starEach es X.env)).any (·.1) = false := by rfl) : SE X W (.Call (.Name x p) (e :: es) [] pos) (mBlt f ms) :=
  PE.imp (pe_callB hc hg hm hv ha hn hdb he hpl) fun σ H Q h => opN_go hf h
theorem se_blty {T : String} {r : List V → Hp → VK → Prop} {f : List AV → Hs → R AV} (hc : CallR X (.type T) r) (hf : OpN X.K r f) (hg : Gl X x) (hm : X.mg x = none) (hv : bootBuiltins x = some (.type T)) (ha : SA X W (e :: es) ms)
    (hn : x ≠ "__name__" := by decide) (hdb : (x == ("__debug__" : Str)) = false := by decide)
    (he : starEach (e :: es) X.env = (false, eval e X.env) :: starEach es X.env := by rfl) (hpl : (backTo pos (starEach es X.env)).any (·.1) = false := by rfl) : SE X W (.Call (.Name x p) (e :: es) [] pos) (mBlt f ms) :=
  PE.imp (pe_callTy hc hg hm hv ha hn hdb he hpl) fun σ H Q h => opN_go hf h
/-- len -/
def fLen : List AV → Hs → R AV
  | [.str s], G => if s.length ≤ szl then .ok (.int s.length) G else .stuck
  | [.ref n], G => match G[n]? with
    | some (.lst xs) => .ok (.int xs.length) G
    | some (.dk xs) => .ok (.int xs.length) G
    | _ => .stuck
  | [.id _ xs], G => .ok (.int xs.length) G
  | [v], G => match seqOf G v with
    | some xs => .ok (.int xs.length) G
    | none => .stuck
  | _, _ => .stuck
def rLenA (K : PySem.W.Frag) : List V → Hp → VK → Prop := fun xs H Q => (∃ y n, xs = [y] ∧ LenV K y H n ∧ Q (.int n) H) ∨ ∃ d kvs, xs = [.ref d] ∧ H d = some (.dK kvs) ∧ Q (.int (kvs.length : Int)) H
theorem RAs.one {K : PySem.W.Frag} {H : Hp} {μ : Mu} {v : AV} {xs : List V} (h : RAs K H μ [v] xs) : ∃ y, xs = [y] ∧ RA K H μ v y := by
  cases h with
  | cons r t => cases t; exact ⟨_, rfl, r⟩
theorem RF.length {K : PySem.W.Frag} {H : Hp} {μ : Mu} {κ : Type} {fs : List (κ × AV)} {gs : List (κ × V)} (h : RF K H μ fs gs) : fs.length = gs.length := by
  have := h.2.length
  rw [List.length_map, List.length_map] at this
  exact this
end
section
variable {P : Program} {w : World} {K : PySem.W.Frag} {mg : Str → Option Value} {base : Heap}
/-- the promise: n things, and what F computes of them -/
def fsp (K : PySem.W.Frag) (n : Nat) (F : List AV → Hs → R AV) : Sp := fun vs H Q E => vs.length = n ∧ ∃ xs μ G, RAs K H μ xs vs ∧ RH K H μ G ∧ Po K (rA K) (fun cls d _ H' => E cls d H') [] H μ (F xs G) Q
/-- how written values come to the parameters -/
structure Sh (K : PySem.W.Frag) (fd : FuncData) (ps : List Str) (n : Nat) (ks : List Str) (gA : List AV → List AV → List AV) : Prop where
  ex : ∃ g gV, KBn K fd ps n ks g gV ∧ ∀ H μ xs vs zs ws, RAs K H μ xs vs → RAs K H μ zs ws → RAs K H μ (gA xs zs) (gV vs ws)
/-- where all are written, in order -/
abbrev gAll : List AV → List AV → List AV := fun xs _ => xs
theorem sh_all {fd : FuncData} {ps : List Str} {n : Nat} (h : Binds K fd ps []) (hn : n = ps.length) : Sh K fd ps n [] gAll :=
  ⟨fun us _ => us, fun vs _ => vs, ⟨fun s us ws hK hl _ => by
    have := h s us hK (by rw [List.append_nil, hl, hn])
    rw [List.append_nil] at this
    exact this, fun r _ => r⟩, fun _ _ _ _ _ _ r _ => r⟩
end
section
variable {X : Cx} {W : WX} {a b c e o : Expr} {es rest : List Expr} {ma mb mc mo : ME} {ms mk : MEs} {pos p apos cpos : Pos} {x : Str} {k N n : Nat} {f : Addr} {fd : FuncData} {ps ks : List Str} {F : List AV → Hs → R AV} {gA : List AV → List AV → List AV} {kws : List Keyword}
theorem run_go {pins : List (Addr × Obj)} {σ : St} {H : Hp} {s : Shared} {Q : VK} {us ws : List Value} {vs zs : List V} {xs ys : List AV} {μ : Mu} {G : Hs} (D : FnG X.prog X.w X.K X.mg X.base (CX X.prog X.w) k f fd ps (fsp X.K ps.length F)) (hr : Rm k X.A) (sh : Sh X.K fd ps n ks gA) (tk : Takes X W)
    (I : Inv X pins σ H s) (r : Vals vs us) (rz : Vals zs ws) (l1 : xs.length = n) (l2 : ys.length = ks.length) (hG : RH X.K H μ G) (rx : RAs X.K H μ xs vs) (ry : RAs X.K H μ ys zs) (l3 : (gA xs ys).length = ps.length)
    (h : Po X.K (rA X.K) W σ H μ (F (gA xs ys) G) Q) : wpAny (model X.prog X.w) X.A (call (.ref f) us (ks.zip ws)) (EP X pins σ Q) X.xe s := by
  obtain ⟨g, gV, hb, hg⟩ := sh.ex
  have r2 := hb.rel r rz
  have rA2 := hg H μ xs vs ys zs rx ry
  refine wpAny_call (codeAny_mono (D.run X.A X.stack s H ⟨us, ks.zip ws⟩ (g us ws) (gV vs zs) Q (fun cls d H' => W cls d σ H') hr I.env0
    (hb.to s us ws I.kIn (r.length.symm.trans (rx.length.symm.trans l1)) (rz.length.symm.trans (ry.length.symm.trans l2))) r2 ⟨by rw [← rA2.length]; exact l3, _, μ, G, rA2, hG, ?_⟩) fun r s' hq => ?_)
  · cases e : F (gA xs ys) G with
    | stuck => rw [e] at h; exact h
    | exc c d G' => rw [e] at h; exact fun H' μ' dd g1 g2 g3 => h H' μ' dd g1 g2 g3
    | ok v G' => rw [e] at h; exact h
  · cases r with
    | error e => exact tk e s' (XE.of_call I (fun cls d H' h => h) hq)
    | ok fl =>
      cases fl with
      | ret u => exact I.after hq
      | next => exact False.elim hq
      | brk => exact False.elim hq
      | cont => exact False.elim hq
/-- f(e, .., k = v, ..) -/
def mCall (N n m : Nat) (gA : List AV → List AV → List AV) (F : List AV → Hs → R AV) (ms mk : MEs) : ME := fun ρ G => (ms ρ G).bind fun xs G1 => (mk ρ G1).bind fun ys G2 => if xs.length = n ∧ ys.length = m ∧ (gA xs ys).length = N then F (gA xs ys) G2 else .stuck
theorem call_if {xs ys : List AV} {m : Nat} {K : PySem.W.Frag} {σ : St} {H : Hp} {μ : Mu} {G : Hs} {Q : VK} (h : Po K (rA K) W σ H μ (if xs.length = n ∧ ys.length = m ∧ (gA xs ys).length = N then F (gA xs ys) G else .stuck) Q) :
    (xs.length = n ∧ ys.length = m ∧ (gA xs ys).length = N) ∧ Po K (rA K) W σ H μ (F (gA xs ys) G) Q := by
  by_cases hc : xs.length = n ∧ ys.length = m ∧ (gA xs ys).length = N
  · rw [if_pos hc] at h
    exact ⟨hc, h⟩
  · rw [if_neg hc] at h
    exact h.elim
theorem se_call (D : FnG X.prog X.w X.K X.mg X.base (CX X.prog X.w) k f fd ps (fsp X.K ps.length F)) (hr : Rm k X.A) (sh : Sh X.K fd ps n [] gA) (tk : Takes X W) (hg : Gl X x) (hm : X.mg x = some (.ref f)) (hk : PySem.W.keepIn X.K (.ref f) = true)
    (ha : SA X W (e :: es) ms) (hdb : (x == ("__debug__" : Str)) = false := by decide) (he : starEach (e :: es) X.env = (false, eval e X.env) :: starEach es X.env := by rfl) (hpl : (backTo pos (starEach es X.env)).any (·.1) = false := by rfl) :
    SE X W (.Call (.Name x p) (e :: es) [] pos) (mCall ps.length n 0 gA F ms mNil) := by
  refine ⟨fun pins s σ H Q I ⟨ρ, μ, G, hσ, hG, h⟩ => ?_⟩
  refine wpAny_Call_Name_kw (ld_glob I hg hm ?_ hdb)
  refine PySem.W.callWith_K (h₀ := X.base) I.ok.mod.kin hk (thn (ha.run pos pins s σ H _ I (tG.bind (Q1 := fun vs H1 => ∃ xs μ1 G1, RAs X.K H1 μ1 xs vs ∧ RH X.K H1 μ1 G1 ∧ xs.length = n ∧ (gA xs []).length = ps.length ∧ Po X.K (rA X.K) W σ H1 μ1 (F (gA xs []) G1) Q) hσ hG h
    fun xs G1 H1 μ1 vs g1 hσ1 hG1 rs h1 => ?_)) fun us s1 ⟨vs, H1, I1, r, xs, μ1, G1, rs, hG1, l1, l3, q⟩ => ⟨I1.kIn, ?_⟩) he hpl
  · obtain ⟨⟨c1, c2, c3⟩, h2⟩ := call_if h1
    exact ⟨xs, μ1, G1, rs, hG1, c1, c3, h2⟩
  · exact run_go (ks := []) (ws := []) (zs := []) D hr sh tk I1 r .nil l1 rfl hG1 rs .nil l3 q
def SK (X : Cx) (W : WX) (kws : List Keyword) (m : MEs) : Prop := PK X kws (tG X.K (rAs X.K) W m)
theorem PK.imp {X : Cx} {e : List Keyword} {t t' : TA} (h : PK X e t) (i : ∀ σ H Q, t' σ H Q → t σ H Q) : PK X e t' := ⟨fun p pins s σ H Q I w => h.run p pins s σ H Q I (i σ H Q w)⟩
theorem sk_nil : SK X W [] mNil := PK.imp pk_nil fun σ H Q ⟨ρ, μ, G, hσ, hG, h⟩ => Po.now (v := ([] : List AV)) h hG .nil
theorem sk_cons {nm : Option Str} {kpos : Pos} (ha : SE X W e ma) (hr : SK X W kws ms) : SK X W (⟨nm, e, kpos⟩ :: kws) (mCons ma ms) :=
  PK.imp (pk_cons ha hr) fun σ H Q ⟨ρ, μ, G, hσ, hG, h⟩ => tG.bind hσ hG h fun v G1 H1 μ1 x g1 hσ1 hG1 r h1 => tG.bind hσ1 hG1 h1 fun vs G2 H2 μ2 xs g2 hσ2 hG2 rs h2 =>
    Po.now (v := v :: vs) h2 hG2 (.cons (r.gr g2) rs)
def startA (n : Nat) (xs : List AV) : En := xs.map some ++ List.replicate (n - xs.length) none
theorem RS.begins {K : PySem.W.Frag} {H : Hp} {μ : Mu} {xs : List AV} {vs : List V} (h : RAs K H μ xs vs) (N : List Str) : RS K H μ (startA N.length xs) (L2.start N vs) := by
  unfold startA L2.start
  refine ⟨by simp [h.length], fun i v e => ?_⟩
  by_cases hi : i < xs.length
  · rw [List.getElem?_append_left (by simpa using hi), List.getElem?_map] at e
    cases q : xs[i]? with
    | none => rw [q] at e; cases e
    | some u =>
      rw [q] at e
      cases e
      obtain ⟨y, h1, r⟩ := h.get' q
      exact ⟨y, by rw [List.getElem?_append_left (by rw [List.length_map, ← h.length]; exact hi), List.getElem?_map, h1]; rfl, r⟩
  · rw [List.getElem?_append_right (by simpa using hi), List.getElem?_replicate] at e
    split at e <;> cases e
def mFn (n : Nat) (b : MS) : List AV → Hs → R AV := fun xs G => match b (startA n xs) G with
  | .nx _ G' => .ok .non G'
  | .rt v G' => .ok v G'
  | .exc c d _ G' => .exc c d G'
  | _ => .stuck
theorem fn_body {P : Program} {w : World} {K : PySem.W.Frag} {mg : Str → Option Value} {base : Heap} {x qual : Str} {params : Arguments} {body : List Stmt} {scope : Scope} {dvs : List V} {kws : List (Str × V)} {f : Addr} {fd : FuncData} {N ps : List Str} {k : Nat} {b : MS}
    (Fn : FunD K x qual params body scope dvs kws f fd) (S : FnScope N ps scope)
    (hb : ∀ (cdv : Value) (A : Around) (outer : List Env) (s : Shared) (H : Hp) (E : XK), Rm k (A.deeper (envOfC qual scope s.heap.objs.size f cdv)) →
      Takes (cxOf (CX P w) P w K mg base N qual scope f cdv A outer s H E) (fun cls d _ H' => E cls d H') →
      SSs (cxOf (CX P w) P w K mg base N qual scope f cdv A outer s H E) (fun cls d _ H' => E cls d H') body b) :
    FnG P w K mg base (CX P w) (k + 1) f fd ps (fsp K ps.length (mFn N.length b)) := by
  refine fnG_of Fn S (fun vs H Q E h => h.1) fun cdv A outer s H vs Q E hr h => ?_
  obtain ⟨hl, xs, μ, G, rs, hG, h⟩ := h
  refine ⟨_, hb cdv A outer s H E hr (takes_of rfl rfl rfl rfl), startA N.length xs, μ, G, RS.begins rs N, hG, ?_⟩
  unfold mFn at h
  cases e : b (startA N.length xs) G with
  | stuck => rw [e] at h; exact h
  | nx ρ G' =>
    rw [e] at h
    exact fun H' μ' σ' g hG' _ => h H' μ' .non g hG' .non
  | rt v G' =>
    rw [e] at h
    exact fun H' μ' y g hG' r => h H' μ' y g hG' r
  | bk ρ G' => rw [e] at h; exact h.elim
  | ct ρ G' => rw [e] at h; exact h.elim
  | exc c d ρ G' =>
    rw [e] at h
    exact fun H' μ' σ' dd g hG' _ hd => h H' μ' dd g hG' hd
end
end Vz
namespace Vz
open PySem L2
theorem PoS.gr {K : PySem.W.Frag} {W : WX} {D : Ends} {H H1 : Hp} {μ μ1 : Mu} {r : SR} (g : Gr H μ H1 μ1) (h : PoS K W D H μ r) : PoS K W D H1 μ1 r := by
  cases r with
  | nx ρ G => exact fun H' μ' σ' g' => h H' μ' σ' (g.trans g')
  | rt ρ G => exact fun H' μ' σ' g' => h H' μ' σ' (g.trans g')
  | bk ρ G => exact fun H' μ' σ' g' => h H' μ' σ' (g.trans g')
  | ct ρ G => exact fun H' μ' σ' g' => h H' μ' σ' (g.trans g')
  | exc c d ρ G => exact fun H' μ' σ' dd g' => h H' μ' σ' dd (g.trans g')
  | stuck => exact h
def R.toS {α : Type} (r : R α) (ρ : En) (k : α → Hs → SR) : SR := match r with
  | .ok v G => k v G
  | .exc c d G => .exc c d ρ G
  | .stuck => .stuck
@[simp] theorem R.toS_ok {α : Type} (v : α) (G : Hs) (ρ : En) (k : α → Hs → SR) : (R.ok v G).toS ρ k = k v G := rfl
@[simp] theorem R.toS_exc {α : Type} (c : Str) (d : XP) (G : Hs) (ρ : En) (k : α → Hs → SR) : (R.exc c d G : R α).toS ρ k = .exc c d ρ G := rfl
@[simp] theorem R.toS_stuck {α : Type} (ρ : En) (k : α → Hs → SR) : (R.stuck : R α).toS ρ k = .stuck := rfl
theorem tG.toS {α β : Type} {K : PySem.W.Frag} {rel : Rel α β} {W : WX} {D : Ends} {m : En → Hs → R α} {k : α → Hs → SR} {ρ : En} {σ : St} {H : Hp} {μ : Mu} {G : Hs} {Q1 : β → Hp → Prop} (hσ : RS K H μ ρ σ) (hG : RH K H μ G)
    (h : PoS K W D H μ ((m ρ G).toS ρ k)) (n : ∀ v G1 H1 μ1 x, Gr H μ H1 μ1 → RS K H1 μ1 ρ σ → RH K H1 μ1 G1 → rel H1 μ1 v x → PoS K W D H1 μ1 (k v G1) → Q1 x H1) : tG K rel W m σ H Q1 := by
  refine ⟨ρ, μ, G, hσ, hG, ?_⟩
  cases e : m ρ G with
  | stuck => rw [e] at h; exact h
  | exc c d G' => rw [e] at h; exact fun H' μ' dd g hG' hd => h H' μ' σ dd g hG' (hσ.gr g) hd
  | ok v G1 =>
    rw [e] at h
    exact fun H1 μ1 x g hr hv => n v G1 H1 μ1 x g (hσ.gr g) hr hv (PoS.gr g h)
section
variable {X : Cx} {W : WX} {a b c e o tg iter : Expr} {es rest : List Expr} {m ma mb mc mo : ME} {t : MB} {ms mk : MEs} {pos p apos cpos : Pos} {x : Str} {st : Stmt} {sts : List Stmt} {s1 s2 : MS} {body other : List Stmt}
def mNx : MS := fun ρ G => .nx ρ G
def mSeq (s1 s2 : MS) : MS := fun ρ G => match s1 ρ G with
  | .nx ρ1 G1 => s2 ρ1 G1
  | r => r
theorem sss_nil : SSs X W [] mNx := PSs.imp pss_nil fun D σ H ⟨ρ, μ, G, hσ, hG, h⟩ => h H μ σ (Gr.refl _ _) hG hσ
theorem sss_cons (h1 : SS X W st s1) (h2 : SSs X W sts s2) : SSs X W (st :: sts) (mSeq s1 s2) := by
  refine PSs.imp (pss_cons h1 h2) fun D σ H ⟨ρ, μ, G, hσ, hG, h⟩ => ⟨ρ, μ, G, hσ, hG, ?_⟩
  unfold mSeq at h
  cases e : s1 ρ G with
  | nx ρ1 G1 =>
    rw [e] at h
    exact fun H' μ' σ' g hG' hσ' => ⟨ρ1, μ', G1, hσ', hG', PoS.gr g h⟩
  | rt v G1 => rw [e] at h; exact h
  | bk ρ1 G1 => rw [e] at h; exact h
  | ct ρ1 G1 => rw [e] at h; exact h
  | exc c d ρ1 G1 => rw [e] at h; exact h
  | stuck => rw [e] at h; exact h
theorem sss_one (h1 : SS X W st s1) : SSs X W [st] s1 := pss_one h1
def mBk : MS := fun ρ G => .bk ρ G
def mCt : MS := fun ρ G => .ct ρ G
def mDrop (m : ME) : MS := fun ρ G => (m ρ G).toS ρ fun _ G1 => .nx ρ G1
theorem ss_expr (he : SE X W e m) (hs : swapsWith e none pos.line X.env = pure false := by rfl) : SS X W (.Expr e pos) (mDrop m) :=
  PS.imp (ps_expr he hs) fun D σ H ⟨ρ, μ, G, hσ, hG, h⟩ => tG.toS hσ hG h fun v G1 H1 μ1 x g hσ1 hG1 r h1 => h1 H1 μ1 σ (Gr.refl _ _) hG1 hσ1
def mRet (m : ME) : MS := fun ρ G => (m ρ G).toS ρ fun v G1 => .rt v G1
theorem ss_ret (he : SE X W e m) : SS X W (.Return (some e) pos) (mRet m) :=
  PS.imp (ps_ret he) fun D σ H ⟨ρ, μ, G, hσ, hG, h⟩ => tG.toS hσ hG h fun v G1 H1 μ1 x g hσ1 hG1 r h1 => h1 H1 μ1 x (Gr.refl _ _) hG1 r
def mRetN : MS := fun _ G => .rt .non G
def mIf (t : MB) (s1 s2 : MS) : MS := fun ρ G => (t ρ G).toS ρ fun k G1 => if k = true then s1 ρ G1 else s2 ρ G1
theorem ss_if (hc : ST X W c t) (h1 : SSs X W body s1) (h2 : SSs X W other s2) : SS X W (.If c body other pos) (mIf t s1 s2) := by
  refine PS.imp (ps_if hc h1 h2) fun D σ H ⟨ρ, μ, G, hσ, hG, h⟩ => tG.toS hσ hG h fun k G1 H1 μ1 k' g hσ1 hG1 ek h1 => ?_
  have ek : k = k' := ek
  subst ek
  cases k with
  | true => exact iteT ⟨ρ, μ1, G1, hσ1, hG1, h1⟩
  | false => exact iteF ⟨ρ, μ1, G1, hσ1, hG1, h1⟩
abbrev MG := AV → En → Hs → R En
/-- a target stores into the slots S alone -/
def tT (K : PySem.W.Frag) (W : WX) (S : List Nat) (g : MG) : TG := fun v σ H Q => ∃ av ρ μ G, RA K H μ av v ∧ RS K H μ ρ σ ∧ RH K H μ G ∧ match g av ρ G with
  | .ok ρ' G' => ∀ H' μ' σ', Gr H μ H' μ' → RH K H' μ' G' → RS K H' μ' ρ' σ' → σ'.length = σ.length → (∀ j, j ∉ S → σ'[j]? = σ[j]?) → Q σ' H'
  | .exc _ _ _ => False
  | .stuck => False
def SG (X : Cx) (W : WX) (S : List Nat) (tg : Expr) (g : MG) : Prop := PG X tg (tT X.K W S g)
theorem PG.imp {X : Cx} {e : Expr} {t t' : TG} (h : PG X e t) (i : ∀ v σ H Q, t' v σ H Q → t v σ H Q) : PG X e t' := ⟨fun pins s σ H v u Q I r w => h.run pins s σ H v u Q I r (i v σ H Q w)⟩
theorem PGs.imp {X : Cx} {e : List Expr} {t t' : TGs} (h : PGs X e t) (i : ∀ v σ H Q, t' v σ H Q → t v σ H Q) : PGs X e t' := ⟨fun pins s σ H v u Q I r w => h.run pins s σ H v u Q I r (i v σ H Q w)⟩
def gNm (i : Nat) : MG := fun v ρ G => .ok (ρ.set i (some v)) G
theorem sg_name {i : Nat} (hN : X.N.Nodup) (hi : X.N[i]? = some x) (hx : Loc X.env.scope x) (hf : X.fn x = true ∨ X.env.scope.names.lookup x = some .local := by first | exact .inl rfl | exact .inr rfl | assumption) : SG X W [i] (.Name x pos) (gNm i) :=
  PG.imp (pg_name hN hi hx hf) fun v σ H Q ⟨av, ρ, μ, G, r, hσ, hG, h⟩ => h H μ _ (Gr.refl _ _) hG (hσ.set r) (List.length_set ..) fun j hj => List.getElem?_set_ne fun e => hj (by rw [e]; exact List.mem_singleton.mpr rfl)
/-- several targets, from a row of values -/
abbrev MGs := List AV → En → Hs → R En
def tTs (K : PySem.W.Frag) (W : WX) (S : List Nat) (g : MGs) : TGs := fun vs σ H Q => ∃ avs ρ μ G, RAs K H μ avs vs ∧ RS K H μ ρ σ ∧ RH K H μ G ∧ match g avs ρ G with
  | .ok ρ' G' => ∀ H' μ' σ', Gr H μ H' μ' → RH K H' μ' G' → RS K H' μ' ρ' σ' → σ'.length = σ.length → (∀ j, j ∉ S → σ'[j]? = σ[j]?) → Q σ' H'
  | .exc _ _ _ => False
  | .stuck => False
def SGs (X : Cx) (W : WX) (S : List Nat) (tg : List Expr) (g : MGs) : Prop := PGs X tg (tTs X.K W S g)
def gNi : MGs := fun vs ρ G => match vs with
  | [] => .ok ρ G
  | _ => .stuck
def gCo (g : MG) (gs : MGs) : MGs := fun vs ρ G => match vs with
  | v :: r => (g v ρ G).bind fun ρ1 G1 => gs r ρ1 G1
  | [] => .stuck
theorem sgs_nil : SGs X W [] [] gNi := by
  refine PGs.imp pgs_nil fun vs σ H Q ⟨avs, ρ, μ, G, r, hσ, hG, h⟩ => ?_
  cases r with
  | nil => exact ⟨rfl, h H μ σ (Gr.refl _ _) hG hσ rfl fun _ _ => rfl⟩
  | cons r t => exact h.elim
theorem sgs_cons {S S' : List Nat} {g : MG} {gs : MGs} (h1 : SG X W S e g) (h2 : SGs X W S' es gs) (hs : (assignEach (e :: es) X.env).map (·.2) = assign e X.env :: (assignEach es X.env).map (·.2) := by rfl) : SGs X W (S ++ S') (e :: es) (gCo g gs) := by
  refine PGs.imp (pgs_cons h1 h2 hs) fun vs σ H Q ⟨avs, ρ, μ, G, r, hσ, hG, h⟩ => ?_
  match avs, vs, r, h with
  | _, _, .nil, h => exact h.elim
  | _, _, .cons (x := av) (v := v) (xs := avs) (vs := vs) r t, h =>
    refine ⟨_, _, rfl, av, ρ, μ, G, r, hσ, hG, ?_⟩
    simp only [gCo] at h
    cases e1 : g av ρ G with
    | stuck => rw [e1] at h; exact h
    | exc c d G' => rw [e1] at h; exact h
    | ok ρ1 G1 =>
      rw [e1] at h
      simp only [R.bind_ok] at h
      intro H1 μ1 σ1 g1 hG1 hσ1 l1 j1
      refine ⟨avs, ρ1, μ1, G1, t.gr g1, hσ1, hG1, ?_⟩
      cases e2 : gs avs ρ1 G1 with
      | stuck => rw [e2] at h; exact h
      | exc c d G' => rw [e2] at h; exact h
      | ok ρ2 G2 =>
        rw [e2] at h
        exact fun H2 μ2 σ2 g2 hG2 hσ2 l2 j2 => h H2 μ2 σ2 (g1.trans g2) hG2 hσ2 (l2.trans l1) fun j hj =>
          (j2 j fun z => hj (List.mem_append_right _ z)).trans (j1 j fun z => hj (List.mem_append_left _ z))
def gTp (n : Nat) (gs : MGs) : MG := fun v ρ G => match tupOf v with
  | some xs => if xs.length = n then gs xs ρ G else .stuck
  | none => .stuck
theorem sg_tup {S : List Nat} {k n : Nat} {gs : MGs} (hc : X.calm = true) (h : SGs X W S es gs) (hn : (assignEach es X.env).length = n := by rfl) (hst : (assignEach es X.env).findIdx? (·.1) = none := by rfl) : SG X W S (.Tuple es k pos) (gTp n gs) := by
  refine PG.imp (pg_tup hc h hn hst) fun v σ H Q ⟨av, ρ, μ, G, r, hσ, hG, h⟩ => ?_
  unfold gTp at h
  cases e : tupOf av with
  | none => rw [e] at h; exact h.elim
  | some xs =>
    rw [e] at h
    simp only at h
    obtain ⟨q, vs, rfl, hq, rs⟩ := tupOf_ok r e
    by_cases hl : xs.length = n
    · rw [if_pos hl] at h
      exact ⟨q, vs, rfl, hq, by rw [← rs.length]; exact hl, xs, ρ, μ, G, rs, hσ, hG, h⟩
    · rw [if_neg hl] at h
      exact h.elim
/-- target = value -/
def mAsg (m : ME) (g : MG) : MS := fun ρ G => (m ρ G).toS ρ fun v G1 => match g v ρ G1 with
  | .ok ρ' G' => .nx ρ' G'
  | _ => .stuck
theorem asg_go {S : List Nat} {g : MG} {D : Ends} {σ : St} {H : Hp} (h : tS X.K W (mAsg m g) D σ H) : tAsg (tG X.K (rA X.K) W m) (tT X.K W S g) D σ H := by
  obtain ⟨ρ, μ, G, hσ, hG, h⟩ := h
  refine tG.toS hσ hG h fun v G1 H1 μ1 x g1 hσ1 hG1 r h1 => ⟨v, ρ, μ1, G1, r, hσ1, hG1, ?_⟩
  cases e : g v ρ G1 with
  | stuck => rw [e] at h1; exact h1
  | exc c d G' => rw [e] at h1; exact h1
  | ok ρ2 G2 =>
    rw [e] at h1
    exact fun H2 μ2 σ2 g2 hG2 hσ2 _ _ => h1 H2 μ2 σ2 g2 hG2 hσ2
theorem ss_asg {S : List Nat} {g : MG} (he : SE X W e m) (hg : SG X W S tg g) (hs : swapsWithSole [tg] e pos.line X.env = pure false := by rfl) (hw : swappedStores [tg] e X.env = pure none := by rfl)
    (h1 : (assignEach [tg] X.env).map (·.2) = [assign tg X.env] := by rfl) : SS X W (.Assign [tg] e pos) (mAsg m g) := PS.imp (ps_asg he hg hs hw h1) fun D σ H h => asg_go h
theorem ss_set {i : Nat} {pos' : Pos} (hN : X.N.Nodup) (hi : X.N[i]? = some x) (hx : Loc X.env.scope x) (he : SE X W e m) (hs : swapsWith e (some (.Name x pos')) pos.line X.env = pure false := by rfl)
    (hf : X.fn x = true ∨ X.env.scope.names.lookup x = some .local := by first | exact .inl rfl | exact .inr rfl | assumption) : SS X W (.Assign [.Name x pos'] e pos) (mAsg m (gNm i)) := by
  refine PS.imp (ps_set hN hi hx he hs hf) fun D σ H ⟨ρ, μ, G, hσ, hG, h⟩ => tG.toS hσ hG h fun v G1 H1 μ1 x g1 hσ1 hG1 r h1 => ?_
  exact h1 H1 μ1 _ (Gr.refl _ _) hG1 (hσ1.set r)
/-- a, b = e1, e2 : two names -/
def mPar (i j : Nat) (ms : MEs) : MS := fun ρ G => (ms ρ G).toS ρ fun vs G1 => match vs with
  | [v, w] => .nx ((ρ.set i (some v)).set j (some w)) G1
  | _ => .stuck
theorem ss_par {i j : Nat} {x y : Str} {px py pt pt2 : Pos} {kt k2 : Nat} (hc : X.calm = true) (hN : X.N.Nodup) (hi : X.N[i]? = some x) (hj : X.N[j]? = some y) (hij : i ≠ j)
    (hx : X.env.scope.names.lookup x = some .local) (hy : X.env.scope.names.lookup y = some .local) (ha : SA X W [a, b] ms)
    (hw : swappedStores [.Tuple [.Name x px, .Name y py] kt pt] (.Tuple [a, b] k2 pt2) X.env = pure (some [x, y]))
    (hs : swapsWithSole [.Tuple [.Name x px, .Name y py] kt pt] (.Tuple [a, b] k2 pt2) pos.line X.env = pure false := by rfl) :
    SS X W (.Assign [.Tuple [.Name x px, .Name y py] kt pt] (.Tuple [a, b] k2 pt2) pos) (mPar i j ms) := by
  refine PS.imp (ps_par hc hN hi hj hij hx hy ha hw hs) fun D σ H ⟨ρ, μ, G, hσ, hG, h⟩ => tG.toS hσ hG h fun vs G1 H1 μ1 xs g1 hσ1 hG1 r h1 => ?_
  cases r with
  | nil => exact h1.elim
  | cons r1 t1 =>
    cases t1 with
    | nil => exact h1.elim
    | cons r2 t2 =>
      cases t2 with
      | cons _ _ => exact h1.elim
      | nil => exact ⟨_, _, rfl, h1 H1 μ1 _ (Gr.refl _ _) hG1 ((hσ1.set r1).set r2)⟩
/-- a name, op= -/
def mAug (i : Nat) (f : AV → AV → Hs → R AV) (m : ME) : MS := fun ρ G => match ρ[i]? with
  | some (some v) => (m ρ G).toS ρ fun w G1 => (f v w G1).toS ρ fun u G2 => .nx (ρ.set i (some u)) G2
  | _ => .stuck
/-- its items, and the list that is to stay as it is -/
abbrev Wk := List AV × Option (Nat × List AV)
def gdOk : Option (Nat × List AV) → Hs → Prop
  | none, _ => True
  | some (n, xs), G => G[n]? = some (.lst xs)
def ItOk (K : PySem.W.Frag) (J : It) (k : Wk) (H1 : Hp) (μ1 : Mu) : Prop := ∀ i H μ G, Gr H1 μ1 H μ → RH K H μ G → gdOk k.2 G →
  (∀ v, k.1[i]? = some v → J.go i H ∧ ∀ x H', J.yld i H x H' → Gr H μ H' μ ∧ RH K H' μ G ∧ RA K H' μ v x) ∧ (k.1.length ≤ i → J.stop i H)
abbrev MI := En → Hs → R Wk
def tI (K : PySem.W.Frag) (W : WX) (m : MI) : TI := fun σ H Q => ∃ ρ μ G, RS K H μ ρ σ ∧ RH K H μ G ∧ match m ρ G with
  | .ok k G1 => ∀ H1 μ1 J, Gr H μ H1 μ1 → RH K H1 μ1 G1 → ItOk K J k H1 μ1 → Q J H1
  | .exc c d G1 => Exw K W σ H μ c d G1
  | .stuck => False
def SI (X : Cx) (W : WX) (tg iter : Expr) (m : MI) : Prop := PI X tg iter (tI X.K W m)
theorem PI.imp {X : Cx} {e i : Expr} {t t' : TI} (h : PI X e i t) (hi : ∀ σ H Q, t' σ H Q → t σ H Q) : PI X e i t' := ⟨fun pins s σ H Q I w => h.run pins s σ H Q I (hi σ H Q w)⟩
open Classical in
noncomputable def forF (gd : Option (Nat × List AV)) (g : MG) (b : MS) : List AV → MS
  | [], ρ, G => if gdOk gd G then .nx ρ G else .stuck
  | v :: vs, ρ, G => if gdOk gd G then match g v ρ G with
      | .ok ρ1 G1 => match b ρ1 G1 with
        | .nx ρ2 G2 => forF gd g b vs ρ2 G2
        | .ct ρ2 G2 => forF gd g b vs ρ2 G2
        | .bk ρ2 G2 => .nx ρ2 G2
        | r => r
      | _ => .stuck
    else .stuck
noncomputable def mFor (mi : MI) (g : MG) (b : MS) : MS := fun ρ G => (mi ρ G).toS ρ fun k G1 => forF k.2 g b k.1 ρ G1
theorem ss_for {S : List Nat} {mi : MI} {g : MG} (hp : PassesOwn (model X.prog X.w) X.A X.env X.xe) (hc : X.calm = true) (hi : SI X W tg iter mi) (hg : SG X W S tg g) (hb : SSs X W body s1)
    (hs : ∀ x, foldedSetIterable iter X.env x = pure x := by intro _; rfl) : SS X W (.For tg iter body [] pos) (mFor mi g s1) := by
  refine PS.imp (ps_for hp hc hi hg hb hs) fun D σ H ⟨ρ, μ, G, hσ, hG, h⟩ => ⟨ρ, μ, G, hσ, hG, ?_⟩
  unfold mFor at h
  cases e : mi ρ G with
  | stuck => rw [e] at h; exact h
  | exc c d G1 => rw [e] at h; exact fun H' μ' dd g hG' hd => h H' μ' σ dd g hG' (hσ.gr g) hd
  | ok k G1 =>
    rw [e] at h
    intro H1 μ1 J g1 hG1 ok
    have h1 := PoS.gr g1 h
    refine ⟨fun i m σ H => m = k.1.length - i ∧ i ≤ k.1.length ∧ ∃ ρ μ G, Gr H1 μ1 H μ ∧ RS X.K H μ ρ σ ∧ RH X.K H μ G ∧ PoS X.K W D H μ (forF k.2 g s1 (k.1.drop i) ρ G),
      ⟨k.1.length, rfl, Nat.zero_le _, ρ, μ1, G1, Gr.refl _ _, hσ.gr g1, hG1, h1⟩, ?_⟩
    rintro i m σ2 H2 ⟨rfl, hi2, ρ2, μ2, G2, g2, hσ2, hG2, h2⟩
    by_cases hlt : i < k.1.length
    · rw [List.drop_eq_getElem_cons hlt] at h2
      simp only [forF] at h2
      by_cases hgd : gdOk k.2 G2
      · rw [if_pos hgd] at h2
        obtain ⟨go, yl⟩ := (ok i H2 μ2 G2 g2 hG2 hgd).1 _ (List.getElem?_eq_getElem hlt)
        refine .inr ⟨go, fun σ' H' => ∃ ρ μ G, Gr H1 μ1 H' μ ∧ RS X.K H' μ ρ σ' ∧ RH X.K H' μ G ∧ PoS X.K W D H' μ (forF k.2 g s1 (k.1.drop (i + 1)) ρ G), fun σ' H' z => ⟨k.1.length - (i + 1), by omega, rfl, hlt, z⟩, fun x H' y => ?_⟩
        obtain ⟨g3, hG3, rx⟩ := yl x H' y
        refine ⟨_, ρ2, μ2, G2, rx, hσ2.gr g3, hG3, ?_⟩
        have h3 := PoS.gr g3 h2
        cases e3 : g k.1[i] ρ2 G2 with
        | stuck => rw [e3] at h3; exact h3
        | exc c d G' => rw [e3] at h3; exact h3
        | ok ρ4 G4 =>
          rw [e3] at h3
          simp only at h3
          intro H4 μ4 σ4 g4 hG4 hσ4 _ _
          have h4 := PoS.gr g4 h3
          have g14 := (g2.trans g3).trans g4
          refine ⟨ρ4, μ4, G4, hσ4, hG4, ?_⟩
          cases e4 : s1 ρ4 G4 with
          | nx ρ5 G5 => rw [e4] at h4; exact fun H' μ' σ' g hG' hσ' => ⟨ρ5, μ', G5, g14.trans g, hσ', hG', PoS.gr g h4⟩
          | ct ρ5 G5 => rw [e4] at h4; exact fun H' μ' σ' g hG' hσ' => ⟨ρ5, μ', G5, g14.trans g, hσ', hG', PoS.gr g h4⟩
          | bk ρ5 G5 => rw [e4] at h4; exact h4
          | rt v G5 => rw [e4] at h4; exact h4
          | exc c d ρ5 G5 => rw [e4] at h4; exact h4
          | stuck => rw [e4] at h4; exact h4
      · rw [if_neg hgd] at h2
        exact h2.elim
    · have ei : i = k.1.length := by omega
      rw [List.drop_eq_nil_of_le (by omega)] at h2
      simp only [forF] at h2
      by_cases hgd : gdOk k.2 G2
      · rw [if_pos hgd] at h2
        exact .inl ⟨(ok i H2 μ2 G2 g2 hG2 hgd).2 (by omega), h2 H2 μ2 σ2 (Gr.refl _ _) hG2 hσ2⟩
      · rw [if_neg hgd] at h2
        exact h2.elim
end
end Vz
namespace Vz
open PySem L2
section
variable {X : Cx} {W : WX} {a b c e o tg iter : Expr} {es rest : List Expr} {m ma mb mc mo : ME} {t : MB} {ms mk : MEs} {pos p apos cpos : Pos} {x : Str}
def wkOf (G : Hs) : AV → Option Wk
  | .tup xs => some (xs, none)
  | .con xs => some (xs, none)
  | .lk xs => some (xs, none)
  | .ls xs => some (xs, none)
  | .str s => some (s.cps.toList.map fun c => .str ⟨#[c]⟩, none)
  | .ref n => match G[n]? with
    | some (.lst xs) => some (xs, some (n, xs))
    | _ => none
  | _ => none
def mWk (m : ME) : MI := fun ρ G => (m ρ G).bind fun v G1 => match wkOf G1 v with
  | some k => .ok k G1
  | none => .stuck
theorem itOk_l {K : PySem.W.Frag} {H1 : Hp} {μ1 : Mu} {a : Addr} {k : Wk} (h : ∀ H μ G, Gr H1 μ1 H μ → RH K H μ G → gdOk k.2 G → ∃ vs, SqL K H a vs ∧ RAs K H μ k.1 vs) : ItOk K (Itl K a) k H1 μ1 := fun i H μ G g hG hgd => by
  obtain ⟨vs, hs, rs⟩ := h H μ G g hG hgd
  refine ⟨fun v hv => ?_, fun hi => ⟨vs, hs, by rw [← rs.length]; exact hi⟩⟩
  obtain ⟨y, hy, r⟩ := rs.get' hv
  refine ⟨⟨vs, y, hs, hy⟩, fun x H' ⟨e, q⟩ => ?_⟩
  subst e
  have := q vs hs
  rw [hy] at this
  cases this
  exact ⟨Gr.refl _ _, hG, r⟩
theorem itOk_t {K : PySem.W.Frag} {H1 : Hp} {μ1 : Mu} {a : Addr} {k : Wk} (h : ∀ H μ G, Gr H1 μ1 H μ → RH K H μ G → gdOk k.2 G → ∃ vs, SqT K H a vs ∧ RAs K H μ k.1 vs) : ItOk K (Itt K a) k H1 μ1 := fun i H μ G g hG hgd => by
  obtain ⟨vs, hs, rs⟩ := h H μ G g hG hgd
  refine ⟨fun v hv => ?_, fun hi => ⟨vs, hs, by rw [← rs.length]; exact hi⟩⟩
  obtain ⟨y, hy, r⟩ := rs.get' hv
  refine ⟨⟨vs, y, hs, hy⟩, fun x H' ⟨e, q⟩ => ?_⟩
  subst e
  have := q vs hs
  rw [hy] at this
  cases this
  exact ⟨Gr.refl _ _, hG, r⟩
theorem itOk_s {K : PySem.W.Frag} {H1 : Hp} {μ1 : Mu} {s : Str} : ItOk K (Its s) (s.cps.toList.map fun c => .str ⟨#[c]⟩, none) H1 μ1 := fun i H μ G g hG _ => by
  refine ⟨fun v hv => ?_, fun hi => ?_⟩
  · rw [List.getElem?_map] at hv
    cases q : s.cps.toList[i]? with
    | none => rw [q] at hv; cases hv
    | some c =>
      rw [q] at hv
      cases hv
      have hc : s.cps[i]? = some c := by rw [← Array.getElem?_toList]; exact q
      refine ⟨(Array.getElem?_eq_some_iff.mp hc).1, fun x H' ⟨e, c', hc', ex⟩ => ?_⟩
      subst e ex
      rw [hc] at hc'
      cases hc'
      exact ⟨Gr.refl _ _, hG, .str _⟩
  · show s.cps.size ≤ i
    have h2 : (s.cps.toList.map fun c => AV.str ⟨#[c]⟩).length ≤ i := hi
    simpa using h2
/-- an iterator over any of these -/
theorem pi_any {l : Expr} {tl : TE} (hl : PE X l tl) : PI X tg l (fun σ H R => tl σ H fun x H1 => (∃ a, x = .ref a ∧ (∃ xs, SqL X.K H1 a xs) ∧ R (Itl X.K a) H1) ∨ (∃ a, x = .ref a ∧ (∃ xs, SqT X.K H1 a xs) ∧ R (Itt X.K a) H1) ∨ ∃ s, x = .str s ∧ R (Its s) H1) := by
  refine ⟨fun pins s σ H R I h => thn (hl.run pins s σ H _ I h) fun v s1 ⟨x, H1, I1, r1, q1⟩ => ?_⟩
  rcases q1 with ⟨a, rfl, ⟨xs, hq⟩, q⟩ | ⟨a, rfl, ⟨xs, hq⟩, q⟩ | ⟨z, rfl, q⟩
  · cases r1
    obtain ⟨its, _, pl, _⟩ := I1.list hq
    exact wpAny_pyIter_list pl.isList (pi_one (tk := s1.toks) I1 _ (turn_list a _) ⟨_, Heap.get?_push_size _ rfl, rfl, rfl⟩ q)
  · cases r1
    obtain ⟨its, _, pt, _⟩ := I1.tuple hq
    exact wpAny_pyIter_tuple (show s1.heap.IsTuple a its.toArray from pt) (pi_one (tk := s1.toks) I1 _ (turn_tuple a _) ⟨_, Heap.get?_push_size _ rfl, rfl, rfl⟩ q)
  · obtain ⟨tk, rfl⟩ := r1
    cases ha : z.cps.all (· < 128) with
    | false => exact wpAny_pyIter_wide ha (pi_one (tk := s1.toks) I1 _ (turn_str _ z tk "str_iterator" (.inr rfl)) ⟨_, Heap.get?_push_size _ rfl, rfl, rfl⟩ q)
    | true => exact wpAny_pyIter_ascii ha (pi_one (tk := s1.toks) I1 _ (turn_str _ z tk "str_ascii_iterator" (.inl rfl)) ⟨_, Heap.get?_push_size _ rfl, rfl, rfl⟩ q)
theorem tI.of {K : PySem.W.Frag} {m : ME} {f : AV → Hs → R Wk} {ρ : En} {σ : St} {H : Hp} {μ : Mu} {G : Hs} {Q : It → Hp → Prop} {Q1 : VK} (hσ : RS K H μ ρ σ) (hG : RH K H μ G)
    (h : match (m ρ G).bind f with
      | .ok k G1 => ∀ H1 μ1 J, Gr H μ H1 μ1 → RH K H1 μ1 G1 → ItOk K J k H1 μ1 → Q J H1
      | .exc c d G1 => Exw K W σ H μ c d G1
      | .stuck => False)
    (n : ∀ v G1 H1 μ1 x k, Gr H μ H1 μ1 → RH K H1 μ1 G1 → RA K H1 μ1 v x → f v G1 = .ok k G1 → (∀ J, ItOk K J k H1 μ1 → Q J H1) → Q1 x H1) (hf : ∀ v G1, (∃ k, f v G1 = .ok k G1) ∨ f v G1 = .stuck) : tG K (rA K) W m σ H Q1 := by
  refine ⟨ρ, μ, G, hσ, hG, ?_⟩
  cases e : m ρ G with
  | stuck => rw [e] at h; exact h
  | exc c d G1 => rw [e] at h; exact h
  | ok v G1 =>
    rw [e] at h
    simp only [R.bind_ok] at h
    rcases hf v G1 with ⟨k, hk⟩ | hk
    · rw [hk] at h
      exact fun H1 μ1 x g hG1 r => n v G1 H1 μ1 x k g hG1 r hk fun J ok => h H1 μ1 J g hG1 ok
    · rw [hk] at h
      exact h.elim
theorem si_any (ha : SE X W a m) : SI X W tg a (mWk m) := by
  refine PI.imp (pi_any ha) fun σ H Q ⟨ρ, μ, G, hσ, hG, h⟩ => tI.of hσ hG h (fun v G1 H1 μ1 x k g hG1 r hk q => ?_) fun v G1 => ?_
  · cases e : wkOf G1 v with
    | none => simp only [e] at hk; cases hk
    | some k' =>
      simp only [e] at hk
      cases hk
      cases r with
      | tup h rs => cases e; exact .inr (.inl ⟨_, rfl, ⟨_, SqT.of h⟩, q _ (itOk_t fun H μ G g _ _ => ⟨_, SqT.of (g.tup _ _ h), rs.gr g⟩)⟩)
      | con h rs => cases e; exact .inr (.inl ⟨_, rfl, ⟨_, h.sq⟩, q _ (itOk_t fun H μ G g _ _ => ⟨_, h.sq, rs.gr g⟩)⟩)
      | lk h rs => cases e; exact .inl ⟨_, rfl, ⟨_, h.sq⟩, q _ (itOk_l fun H μ G g _ _ => ⟨_, (h.gr g).sq, rs.gr g⟩)⟩
      | ls h rs => cases e; exact .inl ⟨_, rfl, ⟨_, h.sq⟩, q _ (itOk_l fun H μ G g _ _ => ⟨_, (h.gr g).sq, rs.gr g⟩)⟩
      | str s => cases e; exact .inr (.inr ⟨s, rfl, q _ itOk_s⟩)
      | ref h =>
        rename_i n a'
        obtain ⟨o, ho, ro⟩ := hG1.obj h
        simp only [wkOf, ho] at e
        cases o with
        | lst xs =>
          cases e
          obtain ⟨vs, h1, rs⟩ := ro
          refine .inl ⟨_, rfl, ⟨_, SqL.of h1⟩, q _ (itOk_l fun H μ G g hG hgd => ?_)⟩
          obtain ⟨vs', h2, rs'⟩ := hG.at_ n a' _ (h.gr g) hgd
          exact ⟨vs', SqL.of h2, rs'⟩
        | _ => cases e
      | _ => cases e
  · cases e : wkOf G1 v with
    | none => exact .inr rfl
    | some k => exact .inl ⟨k, rfl⟩
/-- range(n), range(a, b) -/
def rgA (lo hi : Int) : List AV := (List.range (hi - lo).toNat).map fun i => .int (lo + (i : Nat))
@[irreducible] def mRg1 (m : ME) : MI := fun ρ G => (m ρ G).bind fun v G1 => match v with
  | .int j => if -(2 ^ 62) ≤ j ∧ j < 2 ^ 62 then .ok (rgA 0 j, none) G1 else .stuck
  | _ => .stuck
@[irreducible] def mRg2 (ma mb : ME) : MI := fun ρ G => (ma ρ G).bind fun v G1 => (mb ρ G1).bind fun w G2 => match v, w with
  | .int i, .int j => if -(2 ^ 62) ≤ i ∧ i < 2 ^ 62 ∧ -(2 ^ 62) ≤ j ∧ j < 2 ^ 62 then .ok (rgA i j, none) G2 else .stuck
  | _, _ => .stuck
theorem itOk_r {K : PySem.W.Frag} {H1 : Hp} {μ1 : Mu} {lo hi : Int} : ItOk K (Itr lo (hi - lo).toNat) (rgA lo hi, none) H1 μ1 := fun i H μ G g hG _ => by
  unfold rgA
  refine ⟨fun v hv => ?_, fun h => by
    have h2 : (hi - lo).toNat ≤ i := by simpa using h
    exact h2⟩
  rw [List.getElem?_map] at hv
  by_cases hi' : i < (hi - lo).toNat
  · rw [List.getElem?_range hi'] at hv
    cases hv
    refine ⟨hi', fun x H' ⟨e, ex⟩ => ?_⟩
    subst e ex
    exact ⟨Gr.refl _ _, hG, .int _⟩
  · rw [List.getElem?_eq_none (by simp; omega)] at hv
    cases hv
theorem si_range1 (hg : Gl X "range") (hm : X.mg "range" = none) (ha : SE X W a m) (hs : starEach [a] X.env = [(false, eval a X.env)] := by rfl) : SI X W tg (.Call (.Name "range" p) [a] [] pos) (mRg1 m) := by
  refine PI.imp (pi_range1 hg hm (pa_cons ha pa_nil hs) hs) fun σ H Q ⟨ρ, μ, G, hσ, hG, h⟩ => ?_
  unfold mRg1 at h
  refine tI.of hσ hG h (fun v G1 H1 μ1 x k g hG1 r hk q => ?_) fun v G1 => ?_
  · cases r with
    | int j =>
      simp only at hk
      by_cases hz : -(2 ^ 62) ≤ j ∧ j < 2 ^ 62
      · rw [if_pos hz] at hk
        cases hk
        refine ⟨j, rfl, hz.1, hz.2, ?_⟩
        have := q (Itr 0 (j - 0).toNat) itOk_r
        rw [Int.sub_zero] at this
        exact this
      · rw [if_neg hz] at hk
        cases hk
    | _ => cases hk
  · cases v with
    | int j =>
      simp only
      by_cases hz : -(2 ^ 62) ≤ j ∧ j < 2 ^ 62
      · rw [if_pos hz]; exact .inl ⟨_, rfl⟩
      · rw [if_neg hz]; exact .inr rfl
    | _ => exact .inr rfl
def wipeA (ρ : En) : List Nat → En
  | [] => ρ
  | v :: vs => (wipeA ρ vs).set v none
theorem RS.wipe {K : PySem.W.Frag} {H : Hp} {μ : Mu} {ρ : En} {σ : St} (h : RS K H μ ρ σ) : ∀ vs : List Nat, RS K H μ (wipeA ρ vs) (L2.wipe σ vs)
  | [] => h
  | v :: vs => (RS.wipe h vs).unset
theorem wipe_out' {σ : St} : ∀ {vs : List Nat} {i : Nat}, i ∉ vs → (L2.wipe σ vs)[i]? = σ[i]?
  | [], _, _ => rfl
  | v :: vs, i, h => by
    show ((L2.wipe σ vs).set v none)[i]? = _
    rw [List.getElem?_set_ne fun e => h (by rw [e]; exact List.mem_cons_self ..)]
    exact wipe_out' fun z => h (List.mem_cons_of_mem _ z)
theorem wipe_len {σ : St} : ∀ vs : List Nat, (L2.wipe σ vs).length = σ.length
  | [] => rfl
  | v :: vs => by
    show ((L2.wipe σ vs).set v none).length = _
    rw [List.length_set, wipe_len vs]
theorem wipe_in {σ : St} : ∀ {vs : List Nat} {i : Nat}, i ∈ vs → (L2.wipe σ vs)[i]? = if i < σ.length then some none else none
  | v :: vs, i, h => by
    show ((L2.wipe σ vs).set v none)[i]? = _
    by_cases e : v = i
    · subst e
      by_cases hl : v < σ.length
      · rw [List.getElem?_set_self (by rw [wipe_len]; exact hl), if_pos hl]
      · rw [List.getElem?_eq_none (by rw [List.length_set, wipe_len]; omega), if_neg hl]
    · rw [List.getElem?_set_ne e]
      exact wipe_in ((List.mem_cons.mp h).resolve_left fun z => e z.symm)
theorem wipe_eq {σ σ' : St} {vs S : List Nat} (hS : ∀ j ∈ S, j ∈ vs) (hl : σ'.length = σ.length) (h : ∀ j, j ∉ S → σ'[j]? = σ[j]?) : L2.wipe σ' vs = L2.wipe σ vs := by
  refine List.ext_getElem? fun i => ?_
  by_cases hi : i ∈ vs
  · rw [wipe_in hi, wipe_in hi, hl]
  · rw [wipe_out' hi, wipe_out' hi]
    exact h i fun z => hi (hS i z)
theorem wipe_wipe {σ : St} {vs : List Nat} : L2.wipe (L2.wipe σ vs) vs = L2.wipe σ vs := by
  refine List.ext_getElem? fun i => ?_
  by_cases hi : i ∈ vs
  · rw [wipe_in hi, wipe_in hi, wipe_len]
  · rw [wipe_out' hi]
abbrev WN : WX := fun _ _ _ _ => False
theorem takesN {X : Cx} : Takes X WN := fun _ _ ⟨_, _, _, _, _, _, _, _, _, _, _, _, _, _, _, _, w⟩ => w.elim
abbrev mYes : MB := fun _ G => .ok true G
def STs (X : Cx) (W : WX) (ifs : List Expr) (m : MB) : Prop := PTs X ifs (tG X.K rB W m)
theorem sts_nil : STs X W [] mYes := ⟨fun pins s σ H Q I ⟨ρ, μ, G, hσ, hG, h⟩ => pts_nil.run pins s σ H Q I (Po.now (v := true) h hG rfl)⟩
theorem sts_one (h : ST X W c t) : STs X W [c] t := pts_one h
open Classical in
/-- the turns of a list comprehension: the new list is the object D -/
noncomputable def lcF (gd : Option (Nat × List AV)) (g : MG) (t : MB) (m : ME) (D : Nat) (ρ : En) : List AV → Hs → R Unit
  | [], G => if gdOk gd G then .ok () G else .stuck
  | v :: vs, G => if gdOk gd G then match g v ρ G with
      | .ok ρ1 G1 => match t ρ1 G1 with
        | .ok true G2 => match m ρ1 G2 with
          | .ok y G3 => match G3[D]? with
            | some (.lst acc) => if acc.length < szl then lcF gd g t m D ρ vs (G3.set D (.lst (acc ++ [y]))) else .stuck
            | _ => .stuck
          | _ => .stuck
        | .ok false G2 => lcF gd g t m D ρ vs G2
        | _ => .stuck
      | _ => .stuck
    else .stuck
noncomputable def mLc (mi : MI) (g : MG) (t : MB) (m : ME) (own : List Nat) : ME := fun ρ G => (mi ρ G).bind fun k G1 => (lcF k.2 g t m G1.length (wipeA ρ own) k.1 (G1 ++ [.lst []])).bind fun _ G2 => .ok (.ref G1.length) G2
theorem lc_go {S own : List Nat} {mi : MI} {g : MG} (hS : ∀ j ∈ S, j ∈ own) {K : PySem.W.Frag} {σ : St} {H : Hp} {Q : VK} (h : tG K (rA K) W (mLc mi g t m own) σ H Q) :
    tLc (tI K W mi) (tT K WN S g) (tG K rB WN t) (tG K (rA K) WN m) own σ H Q := by
  obtain ⟨ρ, μ, G, hσ, hG, h⟩ := h
  refine ⟨ρ, μ, G, hσ, hG, ?_⟩
  unfold mLc at h
  cases e : mi ρ G with
  | stuck => rw [e] at h; exact h
  | exc c d G1 => rw [e] at h; exact h
  | ok k G1 =>
    rw [e] at h
    simp only [R.bind_ok] at h
    intro H1 μ1 J g1 hG1 ok D hD
    have gD : Gr H1 μ1 (upd H1 D (.lst [])) (μ1 ++ [some D]) := Gr.alloc hD
    have hGD : RH K (upd H1 D (.lst [])) (μ1 ++ [some D]) (G1 ++ [.lst []]) := hG1.alloc hD ⟨[], upd_same, .nil⟩
    have hDn : Num (μ1 ++ [some D]) G1.length D := hG1.fresh D
    have hw := (hσ.gr (g1.trans gD)).wipe own
    have h0 : Po K (rA K) W σ (upd H1 D (.lst [])) (μ1 ++ [some D]) ((lcF k.2 g t m G1.length (wipeA ρ own) k.1 (G1 ++ [.lst []])).bind fun _ G2 => .ok (.ref G1.length) G2) Q := Po.gr (g1.trans gD) h
    refine ⟨fun i mm H => mm = k.1.length - i ∧ i ≤ k.1.length ∧ ∃ μ G, Gr (upd H1 D (.lst [])) (μ1 ++ [some D]) H μ ∧ RH K H μ G ∧ Po K (rA K) W σ H μ ((lcF k.2 g t m G1.length (wipeA ρ own) (k.1.drop i) G).bind fun _ G2 => .ok (.ref G1.length) G2) Q,
      ⟨k.1.length, rfl, Nat.zero_le _, _, _, Gr.refl _ _, hGD, h0⟩, ?_⟩
    rintro i mm H2 ⟨rfl, hi2, μ2, G2, g2, hG2, h2⟩
    have hDn2 : Num μ2 (G1.length) D := hDn.gr g2
    by_cases hlt : i < k.1.length
    · rw [List.drop_eq_getElem_cons hlt] at h2
      simp only [lcF] at h2
      by_cases hgd : gdOk k.2 G2
      · rw [if_pos hgd] at h2
        obtain ⟨go, yl⟩ := (ok i H2 μ2 G2 (gD.trans g2) hG2 hgd).1 _ (List.getElem?_eq_getElem hlt)
        refine .inr ⟨go, fun H' => ∃ μ G, Gr (upd H1 D (.lst [])) (μ1 ++ [some D]) H' μ ∧ RH K H' μ G ∧ Po K (rA K) W σ H' μ ((lcF k.2 g t m G1.length (wipeA ρ own) (k.1.drop (i + 1)) G).bind fun _ G2 => .ok (.ref G1.length) G2) Q,
          fun H' z => ⟨k.1.length - (i + 1), by omega, rfl, hlt, z⟩, fun x H' y => ?_⟩
        obtain ⟨g3, hG3, rx⟩ := yl x H' y
        have g13 := g2.trans g3
        refine ⟨_, wipeA ρ own, μ2, G2, rx, hw.gr g13, hG3, ?_⟩
        have h3 := Po.gr g3 h2
        cases e3 : g k.1[i] (wipeA ρ own) G2 with
        | stuck => rw [e3] at h3; exact h3
        | exc c d G' => rw [e3] at h3; exact h3
        | ok ρ4 G4 =>
          rw [e3] at h3
          simp only at h3
          intro H4 μ4 σ4 g4 hG4 hσ4 l4 j4
          have h4 := Po.gr g4 h3
          have g14 := g13.trans g4
          refine ⟨(wipe_eq hS l4 j4).trans wipe_wipe, ρ4, μ4, G4, hσ4, hG4, ?_⟩
          cases e4 : t ρ4 G4 with
          | stuck => rw [e4] at h4; exact h4
          | exc c d G' => rw [e4] at h4; exact h4.elim
          | ok b G5 =>
            rw [e4] at h4
            intro H5 μ5 b' g5 hG5 eb
            have eb : b = b' := eb
            subst eb
            have h5 := Po.gr g5 h4
            have g15 := g14.trans g5
            cases b with
            | false => exact iteF ⟨μ5, G5, g15, hG5, h5⟩
            | true =>
              refine iteT ⟨ρ4, μ5, G5, hσ4.gr g5, hG5, ?_⟩
              simp only at h5
              cases e6 : m ρ4 G5 with
              | stuck => rw [e6] at h5; exact h5
              | exc c d G' => rw [e6] at h5; exact h5.elim
              | ok y G6 =>
                rw [e6] at h5
                simp only at h5
                intro H6 μ6 y' g6 hG6 ry
                have h6 := Po.gr g6 h5
                have g16 := g15.trans g6
                have hDn6 : Num μ6 (G1.length) D := hDn.gr g16
                obtain ⟨o, ho, ro⟩ := hG6.obj hDn6
                rw [ho] at h6
                cases o with
                | lst acc =>
                  simp only at h6
                  obtain ⟨vs, hv, rs⟩ := ro
                  by_cases hz : acc.length < szl
                  · rw [if_pos hz] at h6
                    have gp : Gr H6 μ6 (upd H6 D (.lst (vs ++ [y']))) μ6 := Gr.put hG6 hDn6 ho
                    refine ⟨vs, hv, by rw [← rs.length]; exact hz, μ6, _, g16.trans gp, hG6.put (o := .lst (acc ++ [y])) hDn6 ho ⟨_, upd_same, (rs.app (.cons ry .nil)).gr gp⟩, Po.gr gp h6⟩
                  · rw [if_neg hz] at h6
                    exact h6.elim
                | _ => exact h6.elim
      · rw [if_neg hgd] at h2
        exact h2.elim
    · have ei : i = k.1.length := by omega
      rw [List.drop_eq_nil_of_le (by omega)] at h2
      simp only [lcF] at h2
      by_cases hgd : gdOk k.2 G2
      · rw [if_pos hgd] at h2
        exact .inl ⟨(ok i H2 μ2 G2 (gD.trans g2) hG2 hgd).2 (by omega), Po.now (v := AV.ref G1.length) h2 hG2 (.ref hDn2)⟩
      · rw [if_neg hgd] at h2
        exact h2.elim
theorem se_lc {S : List Nat} {elt : Expr} {ifs : List Expr} {scope : Scope} {own : List (Str × Nat)} {mi : MI} {g : MG} (hc : X.calm = true) (hN : X.N.Nodup) (hi : SI X W tg iter mi) (ok : BlkOk X.N X.env.scope scope own) (hS : ∀ j ∈ S, j ∈ own.map (·.2))
    (hg : ∀ (s : Shared) (H : Hp) (C : Addr) (cl : List (Str × Addr)) (fp : List Addr), SG (X.blk s H scope (compEnvC scope cl C X.env) fp) WN S tg g)
    (ht : ∀ (s : Shared) (H : Hp) (C : Addr) (cl : List (Str × Addr)) (fp : List Addr), STs (X.blk s H scope (compEnvC scope cl C X.env) fp) WN ifs t)
    (he : ∀ (s : Shared) (H : Hp) (C : Addr) (cl : List (Str × Addr)) (fp : List Addr), SE (X.blk s H scope (compEnvC scope cl C X.env) fp) WN elt m) (hs : ∀ x, foldedSetIterable iter X.env x = pure x := by intro _; rfl) :
    SE X W (.ListComp elt [⟨tg, iter, ifs, 0⟩] scope pos) (mLc mi g t m (own.map (·.2))) :=
  PE.imp (pe_lc (g := tT X.K WN S g) (tt := tG X.K rB WN t) (te := tG X.K (rA X.K) WN m) hc hN hi ok hg ht he hs) fun σ H Q h => lc_go hS h
theorem ss_setLc {S : List Nat} {i : Nat} {y : Str} {py spos : Pos} {elt : Expr} {ifs : List Expr} {scope : Scope} {own : List (Str × Nat)} {mi : MI} {g : MG} (hc : X.calm = true) (hN : X.N.Nodup) (hy : X.N[i]? = some y) (hyl : X.env.scope.names.lookup y = some .local)
    (hsw : swapsWith (.ListComp elt [⟨tg, iter, ifs, 0⟩] scope pos) (some (.Name y py)) spos.line X.env = pure true) (hi : SI X W tg iter mi) (ok : BlkOk X.N X.env.scope scope own) (hS : ∀ j ∈ S, j ∈ own.map (·.2))
    (hg : ∀ (s : Shared) (H : Hp) (C : Addr) (cl : List (Str × Addr)) (fp : List Addr), SG (X.blk s H scope (compEnvC scope cl C X.env) fp) WN S tg g)
    (ht : ∀ (s : Shared) (H : Hp) (C : Addr) (cl : List (Str × Addr)) (fp : List Addr), STs (X.blk s H scope (compEnvC scope cl C X.env) fp) WN ifs t)
    (he : ∀ (s : Shared) (H : Hp) (C : Addr) (cl : List (Str × Addr)) (fp : List Addr), SE (X.blk s H scope (compEnvC scope cl C X.env) fp) WN elt m) (hs : ∀ x, foldedSetIterable iter X.env x = pure x := by intro _; rfl) :
    SS X W (.Assign [.Name y py] (.ListComp elt [⟨tg, iter, ifs, 0⟩] scope pos) spos) (mAsg (mLc mi g t m (own.map (·.2))) (gNm i)) := by
  refine PS.imp (ps_setLc (g := tT X.K WN S g) (tt := tG X.K rB WN t) (te := tG X.K (rA X.K) WN m) hc hN hy hyl hsw hi ok hg ht he hs) fun D σ H ⟨ρ, μ, G, hσ, hG, h⟩ => lc_go hS (W := W) ⟨ρ, μ, G, hσ, hG, ?_⟩
  unfold mAsg at h
  cases e : mLc mi g t m (own.map (·.2)) ρ G with
  | stuck => rw [e] at h; exact h
  | exc c d G' => rw [e] at h; exact fun H' μ' dd g hG' hd => h H' μ' σ dd g hG' (hσ.gr g) hd
  | ok v G1 =>
    rw [e] at h
    exact fun H1 μ1 z g1 hG1 r => h H1 μ1 _ g1 hG1 ((hσ.gr g1).set r)
end
end Vz
namespace Vz
open PySem L2
def kOf : AV → Option Key
  | .int i => some (.inl i)
  | .str s => some (.inr s)
  | _ => none
theorem kOf_ok {K : PySem.W.Frag} {H : Hp} {μ : Mu} {v : AV} {x : V} {k : Key} (r : RA K H μ v x) (e : kOf v = some k) : x = kV k := by
  cases r with
  | int i => cases e; rfl
  | str s => cases e; rfl
  | _ => cases e
section
variable {κ : Type} [DecidableEq κ]
def getA : List (κ × AV) → κ → Option AV
  | [], _ => none
  | (k, v) :: r, j => if k = j then some v else getA r j
def putA (kvs : List (κ × AV)) (k : κ) (v : AV) : List (κ × AV) := if (kvs.any fun kv => decide (kv.1 = k)) = true then kvs.map (fun kv => if kv.1 = k then (kv.1, v) else kv) else kvs ++ [(k, v)]
variable {K : PySem.W.Frag} {H : Hp} {μ : Mu}
theorem RF.cons_inv {k : κ} {v : AV} {fs : List (κ × AV)} {gs : List (κ × V)} (h : RF K H μ ((k, v) :: fs) gs) : ∃ x gs', gs = (k, x) :: gs' ∧ RA K H μ v x ∧ RF K H μ fs gs' := by
  obtain ⟨h1, h2⟩ := h
  cases gs with
  | nil => cases h1
  | cons g gs =>
    obtain ⟨k', x⟩ := g
    rw [List.map_cons, List.map_cons] at h1
    injection h1 with e1 e2
    have e1 : k = k' := e1
    subst e1
    cases h2 with
    | cons r t => exact ⟨x, gs, rfl, r, e2, t⟩
theorem RF.cons {k : κ} {v : AV} {x : V} {fs : List (κ × AV)} {gs : List (κ × V)} (r : RA K H μ v x) (h : RF K H μ fs gs) : RF K H μ ((k, v) :: fs) ((k, x) :: gs) :=
  ⟨by rw [List.map_cons, List.map_cons, h.1], .cons r h.2⟩
theorem RF.nil' : RF K H μ ([] : List (κ × AV)) ([] : List (κ × V)) := ⟨rfl, .nil⟩
/-- what is there, or not -/
def RAo (K : PySem.W.Frag) (H : Hp) (μ : Mu) : Option AV → Option V → Prop
  | some v, some x => RA K H μ v x
  | none, none => True
  | _, _ => False
theorem RF.get (k : κ) : ∀ {fs : List (κ × AV)} {gs : List (κ × V)}, RF K H μ fs gs → RAo K H μ (getA fs k) (valV gs k)
  | [], gs, h => by
    cases gs with
    | nil => exact True.intro
    | cons g gs => cases h.1
  | (j, v) :: fs, gs, h => by
    obtain ⟨x, gs', rfl, r, t⟩ := h.cons_inv
    unfold getA
    by_cases e : j = k
    · rw [if_pos e, valV_pos (p := (j, x)) e]
      exact r
    · rw [if_neg e, valV_neg (p := (j, x)) e]
      exact RF.get k t
theorem RF.any (k : κ) : ∀ {fs : List (κ × AV)} {gs : List (κ × V)}, RF K H μ fs gs → (fs.any fun kv => decide (kv.1 = k)) = gs.any fun kv => decide (kv.1 = k)
  | [], gs, h => by
    cases gs with
    | nil => rfl
    | cons g gs => cases h.1
  | (j, v) :: fs, gs, h => by
    obtain ⟨x, gs', rfl, r, t⟩ := h.cons_inv
    rw [List.any_cons, List.any_cons, RF.any k t]
theorem RF.mapSet {k : κ} {v : AV} {x : V} (r : RA K H μ v x) : ∀ {fs : List (κ × AV)} {gs : List (κ × V)}, RF K H μ fs gs → RF K H μ (fs.map fun kv => if kv.1 = k then (kv.1, v) else kv) (gs.map fun kv => if kv.1 = k then (kv.1, x) else kv)
  | [], gs, h => by
    cases gs with
    | nil => exact .nil'
    | cons g gs => cases h.1
  | (j, u) :: fs, gs, h => by
    obtain ⟨y, gs', rfl, r', t⟩ := h.cons_inv
    rw [List.map_cons, List.map_cons]
    by_cases e : j = k
    · rw [if_pos (show (j, u).1 = k from e), if_pos (show (j, y).1 = k from e)]
      exact .cons r (RF.mapSet r t)
    · rw [if_neg (show ¬ (j, u).1 = k from e), if_neg (show ¬ (j, y).1 = k from e)]
      exact .cons r' (RF.mapSet r t)
theorem RF.app {fs fs' : List (κ × AV)} {gs gs' : List (κ × V)} (h : RF K H μ fs gs) (h' : RF K H μ fs' gs') : RF K H μ (fs ++ fs') (gs ++ gs') :=
  ⟨by rw [List.map_append, List.map_append, h.1, h'.1], by rw [List.map_append, List.map_append]; exact h.2.app h'.2⟩
theorem RF.put (k : κ) {v : AV} {x : V} (r : RA K H μ v x) {fs : List (κ × AV)} {gs : List (κ × V)} (h : RF K H μ fs gs) : RF K H μ (putA fs k v) (putK gs k x) := by
  unfold putA putK
  rw [RF.any k h]
  split
  · exact h.mapSet r
  · exact h.app (.cons r .nil')
end
def dkOf (G : Hs) : AV → Option (Nat × List (Key × AV))
  | .ref n => match G[n]? with
    | some (.dk kvs) => some (n, kvs)
    | _ => none
  | _ => none
theorem dkOf_ok {K : PySem.W.Frag} {H : Hp} {μ : Mu} {G : Hs} {v : AV} {x : V} {n : Nat} {kvs : List (Key × AV)} (hG : RH K H μ G) (r : RA K H μ v x) (e : dkOf G v = some (n, kvs)) :
    ∃ a ws, v = .ref n ∧ x = .ref a ∧ Num μ (n) a ∧ G[n]? = some (.dk kvs) ∧ H a = some (.dK ws) ∧ RF K H μ kvs ws := by
  cases r with
  | ref h =>
    obtain ⟨o, ho, ro⟩ := hG.obj h
    simp only [dkOf, ho] at e
    cases o with
    | dk zs =>
      cases e
      obtain ⟨ws, h1, h2⟩ := ro
      exact ⟨_, ws, rfl, rfl, h, ho, h1, h2⟩
    | _ => cases e
  | _ => cases e
/-- a dict, as it is read -/
def dkR (G : Hs) : AV → Option (List (Key × AV))
  | .ref n => match G[n]? with
    | some (.dk kvs) => some kvs
    | _ => none
  | .id ks xs => some (ks.zip xs)
  | _ => none
theorem dkR_ok {K : PySem.W.Frag} {H : Hp} {μ : Mu} {G : Hs} {v : AV} {x : V} {kvs : List (Key × AV)} (hG : RH K H μ G) (r : RA K H μ v x) (e : dkR G v = some kvs) :
    ∃ a ws, x = .ref a ∧ H a = some (.dK ws) ∧ RF K H μ kvs ws := by
  cases r with
  | ref h =>
    obtain ⟨o, ho, ro⟩ := hG.obj h
    simp only [dkR, ho] at e
    cases o with
    | dk zs =>
      cases e
      obtain ⟨ws, h1, h2⟩ := ro
      exact ⟨_, ws, rfl, h1, h2⟩
    | _ => cases e
  | id h _ en rs => cases e; exact ⟨_, _, rfl, h, RF.zip en rs⟩
  | _ => cases e
section
variable {X : Cx} {W : WX} {a b c e o i value : Expr} {es rest : List Expr} {m ma mb mc mo mi mv : ME} {t : MB} {ms mk : MEs} {pos pos' p apos cpos tpos : Pos} {x : Str}
/-- d[k] -/
def fDg (v w : AV) (G : Hs) : R AV := match dkR G v, kOf w with
  | some kvs, some k => match getA kvs k with
    | some u => .ok u G
    | none => .stuck
  | _, _ => .stuck
theorem RAo.some_of {K : PySem.W.Frag} {H : Hp} {μ : Mu} {v : AV} {o : Option V} (h : RAo K H μ (some v) o) : ∃ x, o = some x ∧ RA K H μ v x := by
  cases o with
  | none => exact h.elim
  | some x => exact ⟨x, rfl, h⟩
theorem RAo.isSome {K : PySem.W.Frag} {H : Hp} {μ : Mu} {u : Option AV} {o : Option V} (h : RAo K H μ u o) : u.isSome = o.isSome := by
  cases u <;> cases o <;> first | rfl | exact h.elim
theorem se_dget (hu : X.A.units + 1 < cLine) (ha : SE X W o mo) (hb : SE X W i mi) (hs : NoSl i) : SE X W (.Subscript o i pos) (m2 fDg mo mi) := by
  refine PE.imp (pe_dget hu ha hb hs) fun σ H Q ⟨ρ, μ, G, hσ, hG, h⟩ => tG.bind hσ hG h fun v G1 H1 μ1 x g1 hσ1 hG1 rv h1 => tG.bind hσ1 hG1 h1 fun w G2 H2 μ2 y g2 hσ2 hG2 rw' h2 => ?_
  unfold fDg at h2
  cases e1 : dkR G2 v with
  | none => rw [e1] at h2; exact h2.elim
  | some kvs =>
    cases e2 : kOf w with
    | none => rw [e1, e2] at h2; exact h2.elim
    | some k =>
      rw [e1, e2] at h2
      simp only at h2
      cases e3 : getA kvs k with
      | none => rw [e3] at h2; exact h2.elim
      | some u =>
        rw [e3] at h2
        obtain ⟨p, ws, rfl, hp, rf⟩ := dkR_ok hG2 (rv.gr g2) e1
        have hr := rf.get k
        rw [e3] at hr
        obtain ⟨z, hz, rz⟩ := hr.some_of
        exact ⟨p, z, rfl, .inl ⟨ws, k, .inl hp, kOf_ok rw' e2, hz.symm⟩, Po.now (v := u) h2 hG2 rz⟩
def rNinK : R2 := fun x y H Q => ∃ a ov, y = .ref a ∧ DGet H a x ov ∧ Q (.bl (!ov.isSome)) H
theorem op_ninK (hu : X.A.units + 1 < cLine) : OpR X (compareOp .NotIn) rNinK := by
  intro pins s σ H x y v u Q I rx ry ⟨a, ov, ea, g, q⟩
  subst ea
  cases ry
  exact d_notIn hu I g rx fun s3 I3 => ⟨.bl (!ov.isSome), H, I3, rfl, q⟩
def fNinK (v w : AV) (G : Hs) : R AV := match dkR G w, kOf v with
  | some kvs, some k => .ok (.bl (!(getA kvs k).isSome)) G
  | _, _ => .stuck
theorem op2_ninK {K : PySem.W.Frag} : Op2 K rNinK fNinK := by
  intro W σ H μ G v w x y Q hG rv rw' q
  unfold fNinK at q
  cases e1 : dkR G w with
  | none => rw [e1] at q; exact q.elim
  | some kvs =>
    cases e2 : kOf v with
    | none => rw [e1, e2] at q; exact q.elim
    | some k =>
      rw [e1, e2] at q
      obtain ⟨p, ws, rfl, hp, rf⟩ := dkR_ok hG rw' e1
      have hr := (rf.get k).isSome
      exact ⟨p, valV ws k, rfl, .inl ⟨ws, k, .inl hp, kOf_ok rv e2, rfl⟩, by rw [← hr]; exact Po.now (v := AV.bl _) q hG (.bl _)⟩
/-- d[k] = v -/
def fDp (v w u : AV) (G : Hs) : R Unit := match dkOf G v, kOf w with
  | some (n, kvs), some k => if kvs.length < szl then .ok () (G.set n (.dk (putA kvs k u))) else .stuck
  | _, _ => .stuck
def mDput (mo mi mv : ME) : MS := fun ρ G => (mv ρ G).toS ρ fun u G1 => (mo ρ G1).toS ρ fun v G2 => (mi ρ G2).toS ρ fun w G3 => (fDp v w u G3).toS ρ fun _ G4 => .nx ρ G4
theorem ss_dput (hu : X.A.units + 1 < cLine) (ha : SE X W o mo) (hb : SE X W i mi) (hv : SE X W value mv) (hs : swapsWith value (some (.Subscript o i pos')) pos.line X.env = pure false) :
    SS X W (.Assign [.Subscript o i pos'] value pos) (mDput mo mi mv) := by
  refine PS.imp (ps_dput hu ha hb hv hs) fun D σ H ⟨ρ, μ, G, hσ, hG, h⟩ => tG.toS hσ hG h fun u G1 H1 μ1 x1 g1 hσ1 hG1 ru h1 => tG.toS hσ1 hG1 h1 fun v G2 H2 μ2 x2 g2 hσ2 hG2 rv h2 => tG.toS hσ2 hG2 h2 fun w G3 H3 μ3 x3 g3 hσ3 hG3 rw' h3 => ?_
  unfold fDp at h3
  cases e1 : dkOf G3 v with
  | none => rw [e1] at h3; exact h3.elim
  | some q =>
    obtain ⟨n, kvs⟩ := q
    cases e2 : kOf w with
    | none => rw [e1, e2] at h3; exact h3.elim
    | some k =>
      rw [e1, e2] at h3
      simp only at h3
      by_cases hz : kvs.length < szl
      · rw [if_pos hz] at h3
        obtain ⟨q, ws, rfl, rfl, hn, hGn, hp, rf⟩ := dkOf_ok hG3 (rv.gr g3) e1
        have gp : Gr H3 μ3 (upd H3 q (.dK (putK ws k x1))) μ3 := Gr.put hG3 hn hGn
        refine ⟨q, _, rfl, .inl ⟨ws, k, hp, kOf_ok rw' e2, by rw [← rf.length]; exact hz, rfl⟩, ?_⟩
        exact h3 _ μ3 σ gp (hG3.put (o := .dk (putA kvs k u)) hn hGn ⟨_, upd_same, (rf.put k ((ru.gr g2).gr g3)).gr gp⟩) (hσ3.gr gp)
      · rw [if_neg hz] at h3
        exact h3.elim
/-- {k: v, ..} -/
def mPairs : List (ME × ME) → En → Hs → R (List (Key × AV))
  | [], _, G => .ok [] G
  | (mk, mv) :: r, ρ, G => (mk ρ G).bind fun w G1 => (mv ρ G1).bind fun u G2 => match kOf w with
    | some k => (mPairs r ρ G2).bind fun kvs G3 => .ok ((k, u) :: kvs) G3
    | none => .stuck
def mergeA (more : List (Key × AV)) : List (Key × AV) := more.foldl (fun acc kv => putA acc kv.1 kv.2) []
open Classical in
noncomputable def mDict (trs : List (ME × ME)) : ME := fun ρ G => (mPairs trs ρ (G ++ [.dk []])).bind fun kvs G1 => if kvs.length ≤ 15 ∧ G1[G.length]? = some (.dk []) then .ok (.ref G.length) (G1.set G.length (.dk (mergeA kvs))) else .stuck
inductive SPs (X : Cx) (W : WX) (pos : Pos) : List (Option Expr) → List Expr → List (ME × ME) → Prop where
  | nil : SPs X W pos [] [] []
  | cons {k v : Expr} {ks : List (Option Expr)} {vs : List Expr} {mk mv : ME} {r : List (ME × ME)} : SE X W k mk → SE X W v mv → SPs X W pos ks vs r → SPs X W pos (some k :: ks) (v :: vs) ((mk, mv) :: r)
def tPs (K : PySem.W.Frag) (W : WX) (trs : List (ME × ME)) : List (TE × TE) := trs.map fun q => (tG K (rA K) W q.1, tG K (rA K) W q.2)
theorem SPs.pps {ks : List (Option Expr)} {vs : List Expr} {trs : List (ME × ME)} (h : SPs X W pos ks vs trs) : PPs X pos ks vs (tPs X.K W trs) := by
  induction h with
  | nil => exact pps_nil
  | cons h1 h2 _ ih => exact pps_cons h1 h2 ih
theorem pairs_go {K : PySem.W.Frag} {γ δ : Type} {rel' : Rel γ δ} {ρ : En} {σ : St} : ∀ {trs : List (ME × ME)} {H : Hp} {μ : Mu} {G : Hs} {k : List (Key × AV) → Hs → R γ} {Q : δ → Hp → Prop} {Q1 : List (V × V) → Hp → Prop}, RS K H μ ρ σ → RH K H μ G → Po K rel' W σ H μ ((mPairs trs ρ G).bind k) Q →
    (∀ kvs G1 H1 μ1 ws, Gr H μ H1 μ1 → RS K H1 μ1 ρ σ → RH K H1 μ1 G1 → RF K H1 μ1 kvs ws → Po K rel' W σ H1 μ1 (k kvs G1) Q → Q1 (ws.map fun kv => (kV kv.1, kv.2)) H1) → tPairs (tPs K W trs) σ H Q1
  | [], H, μ, G, k, Q, Q1, hσ, hG, h, n => n [] G H μ [] (Gr.refl _ _) hσ hG .nil' h
  | (mk, mv) :: r, H, μ, G, k, Q, Q1, hσ, hG, h, n => by
    have h : Po K rel' W σ H μ ((mk ρ G).bind fun w G1 => (((mv ρ G1).bind fun u G2 => match kOf w with
      | some k => (mPairs r ρ G2).bind fun kvs G3 => .ok ((k, u) :: kvs) G3
      | none => .stuck).bind k)) Q := by
      have e : (mPairs ((mk, mv) :: r) ρ G).bind k = (mk ρ G).bind fun w G1 => (((mv ρ G1).bind fun u G2 => match kOf w with
        | some k => (mPairs r ρ G2).bind fun kvs G3 => .ok ((k, u) :: kvs) G3
        | none => .stuck).bind k) := by
        show ((mk ρ G).bind _).bind k = _
        cases mk ρ G <;> rfl
      rw [← e]
      exact h
    refine tG.bind hσ hG h fun w G1 H1 μ1 y g1 hσ1 hG1 rw' h1 => ?_
    have h1 : Po K rel' W σ H1 μ1 ((mv ρ G1).bind fun u G2 => ((match kOf w with
      | some k => (mPairs r ρ G2).bind fun kvs G3 => .ok ((k, u) :: kvs) G3
      | none => .stuck : R (List (Key × AV))).bind k)) Q := by
      cases e : mv ρ G1 with
      | stuck => rw [e] at h1; exact h1
      | exc c d G' => rw [e] at h1; exact h1
      | ok u G2 => rw [e] at h1; exact h1
    refine tG.bind hσ1 hG1 h1 fun u G2 H2 μ2 z g2 hσ2 hG2 ru h2 => ?_
    cases e2 : kOf w with
    | none => rw [e2] at h2; exact h2.elim
    | some k0 =>
      rw [e2] at h2
      have h2 : Po K rel' W σ H2 μ2 ((mPairs r ρ G2).bind fun kvs G3 => k ((k0, u) :: kvs) G3) Q := by
        cases e : mPairs r ρ G2 with
        | stuck => rw [e] at h2; exact h2
        | exc c d G' => rw [e] at h2; exact h2
        | ok kvs G3 => rw [e] at h2; exact h2
      refine pairs_go hσ2 hG2 h2 fun kvs G3 H3 μ3 ws g3 hσ3 hG3 rf h3 => ?_
      have := n ((k0, u) :: kvs) G3 H3 μ3 ((k0, z) :: ws) ((g1.trans g2).trans g3) hσ3 hG3 (.cons (ru.gr g3) rf) h3
      rw [List.map_cons] at this
      rw [kOf_ok rw' e2]
      exact this
theorem merge_ok {K : PySem.W.Frag} {H : Hp} {μ : Mu} : ∀ {more : List (Key × AV)} {ws : List (Key × V)} {fs : List (Key × AV)} {gs : List (Key × V)}, RF K H μ more ws → RF K H μ fs gs → RF K H μ (more.foldl (fun acc kv => putA acc kv.1 kv.2) fs) (mergeK gs ws)
  | [], ws, fs, gs, h, h' => by
    cases ws with
    | nil => exact h'
    | cons g ws => cases h.1
  | (k, v) :: more, ws, fs, gs, h, h' => by
    obtain ⟨y, ws', rfl, r, t⟩ := h.cons_inv
    have q := merge_ok (more := more) (ws := ws') (fs := putA fs k v) (gs := putK gs k y) t (h'.put k r)
    exact q
theorem se_dict {ks : List (Option Expr)} {vs : List Expr} {trs : List (ME × ME)} (h : SPs X W pos ks vs trs) (hall : ks.all (·.isSome) = true) (hl : ks.length = vs.length) (h0 : ks ≠ []) (h15 : ks.length ≤ 15) : SE X W (.Dict ks vs pos) (mDict trs) := by
  refine PE.imp (pe_disp h.pps hall hl h0 h15) fun σ H Q ⟨ρ, μ, G, hσ, hG, h⟩ p hp => ?_
  have g0 : Gr H μ (upd H p (.dK [])) (μ ++ [some p]) := Gr.alloc hp
  have hG0 : RH X.K (upd H p (.dK [])) (μ ++ [some p]) (G ++ [.dk []]) := hG.alloc hp ⟨[], upd_same, .nil'⟩
  refine pairs_go (hσ.gr g0) hG0 (Po.gr g0 h) fun kvs G1 H1 μ1 ws g1 hσ1 hG1 rf h1 => ?_
  by_cases hz : kvs.length ≤ 15 ∧ G1[G.length]? = some (.dk [])
  · rw [if_pos hz] at h1
    have hn : Num μ1 (G.length) p := (hG.fresh p).gr g1
    obtain ⟨ws0, hw0, rf0⟩ := hG1.at_ _ _ _ hn hz.2
    have e0 : ws0 = [] := List.length_eq_zero_iff.mp rf0.length.symm
    subst e0
    have gp : Gr H1 μ1 (upd H1 p (.dK (mergeK [] ws))) μ1 := Gr.put hG1 hn hz.2
    exact ⟨hw0, ws, rfl, by rw [← rf.length]; exact hz.1, h1 _ μ1 _ gp (hG1.put (o := .dk (mergeA kvs)) hn hz.2 ⟨_, upd_same, (merge_ok rf .nil').gr gp⟩) (.ref (hn.gr gp))⟩
  · rw [if_neg hz] at h1
    exact h1.elim
def OpM (K : PySem.W.Frag) (r : V → List V → Hp → VK → Prop) (f : AV → List AV → Hs → R AV) : Prop := ∀ (W : WX) σ H μ G v vs x xs Q, RH K H μ G → RA K H μ v x → RAs K H μ vs xs → Po K (rA K) W σ H μ (f v vs G) Q → r x xs H Q
/-- of that type -/
def isL (v : AV) (G : Hs) : Bool := (lstOf G v).isSome
def isS (v : AV) (G : Hs) : Bool := match v with
  | .str _ => true
  | _ => false
def TyM (K : PySem.W.Frag) (T : String) (q : AV → Hs → Bool) : Prop := ∀ H μ G v x, RH K H μ G → RA K H μ v x → q v G = true → tyV K T x H
theorem tyM_l {K : PySem.W.Frag} : TyM K "list" isL := fun H μ G v x hG r h => by
  unfold isL at h
  cases e : lstOf G v with
  | none => rw [e] at h; cases h
  | some xs =>
    obtain ⟨a, vs, rfl, hs, _⟩ := lstOf_ok hG r e
    exact .inl ⟨rfl, vs, hs⟩
def mBm (q : AV → Hs → Bool) (f : AV → List AV → Hs → R AV) (mo : ME) (ms : MEs) : ME := fun ρ G => (mo ρ G).bind fun v G1 => if q v G1 = true then (ms ρ G1).bind fun vs G2 => f v vs G2 else .stuck
theorem se_bm {name : Str} {T id : String} {r : V → List V → Hp → VK → Prop} {q : AV → Hs → Bool} {f : AV → List AV → Hs → R AV} (ty : TyM X.K T q) (hf : OpM X.K r f) (pa : PlainAttrs T) (slot : Slot T name id) (hty : typeOf (.builtin id) = pure (.type "method_descriptor")) (hm : MtR X id r) (ho : SE X W o mo)
    (ha : SA X W (e :: es) ms) (hbase : attributeBase o name X.env (eval o X.env) = eval o X.env := by rfl)
    (hfew : ((backTo cpos (starEach (e :: es) X.env)).all (fun x => !x.1) && (backToKw cpos (keywordEach [] X.env)).all (fun x => x.1.isSome)
      && decide ((e :: es).length + ([] : List Keyword).length + (if ([] : List Keyword).isEmpty then 0 else 1) < 30)) = true := by rfl)
    (hline : (apos.endLine == cpos.line) = true := by rfl) (hs : starEach (e :: es) X.env = (false, eval e X.env) :: starEach es X.env := by rfl) (hplain : (backTo cpos (starEach es X.env)).any (·.1) = false := by rfl) :
    SE X W (.Call (.Attribute o name apos) (e :: es) [] cpos) (mBm q f mo ms) := by
  refine PE.imp (pe_bm pa slot hty hm ho ha hbase hfew hline hs hplain) fun σ H Q ⟨ρ, μ, G, hσ, hG, h⟩ => tG.bind hσ hG h fun v G1 H1 μ1 x g1 hσ1 hG1 rv h1 => ?_
  by_cases hq : q v G1 = true
  · rw [if_pos hq] at h1
    exact ⟨ty _ _ _ _ _ hG1 rv hq, tG.bind hσ1 hG1 h1 fun vs G2 H2 μ2 xs g2 hσ2 hG2 rs h2 => hf W σ H2 μ2 G2 v vs x xs Q hG2 (rv.gr g2) rs h2⟩
  · rw [if_neg hq] at h1
    exact h1.elim
theorem se_bm0 {name : Str} {T id : String} {r : V → List V → Hp → VK → Prop} {q : AV → Hs → Bool} {f : AV → List AV → Hs → R AV} (ty : TyM X.K T q) (hf : OpM X.K r f) (pa : PlainAttrs T) (slot : Slot T name id) (hty : typeOf (.builtin id) = pure (.type "method_descriptor")) (hm : MtR X id r) (ho : SE X W o mo)
    (hbase : attributeBase o name X.env (eval o X.env) = eval o X.env := by rfl) (hline : (apos.endLine == cpos.line) = true := by rfl) : SE X W (.Call (.Attribute o name apos) [] [] cpos) (mBm q f mo mNil) := by
  refine PE.imp (pe_bm0 pa slot hty hm ho hbase hline) fun σ H Q ⟨ρ, μ, G, hσ, hG, h⟩ => tG.bind hσ hG h fun v G1 H1 μ1 x g1 hσ1 hG1 rv h1 => ?_
  by_cases hq : q v G1 = true
  · rw [if_pos hq] at h1
    exact ⟨ty _ _ _ _ _ hG1 rv hq, hf W σ H1 μ1 G1 v [] x [] Q hG1 rv .nil h1⟩
  · rw [if_neg hq] at h1
    exact h1.elim
/-- a list that may be changed -/
theorem mut_ok {K : PySem.W.Frag} {H : Hp} {μ : Mu} {G : Hs} {n : Nat} {x : V} {xs : List AV} (hG : RH K H μ G) (r : RA K H μ (.ref n) x) (e : G[n]? = some (.lst xs)) : ∃ a vs, x = .ref a ∧ Num μ (n) a ∧ H a = some (.lst vs) ∧ RAs K H μ xs vs := by
  cases r with
  | ref h =>
    obtain ⟨vs, h1, h2⟩ := hG.at_ _ _ _ h e
    exact ⟨_, vs, rfl, h, h1, h2⟩
def fApp : AV → List AV → Hs → R AV
  | .ref n, [y], G => match G[n]? with
    | some (.lst xs) => if xs.length < szl then .ok .non (G.set n (.lst (xs ++ [y]))) else .stuck
    | _ => .stuck
  | _, _, _ => .stuck
theorem opM_app {K : PySem.W.Frag} : OpM K rAppend fApp := by
  intro W σ H μ G v vs x xs Q hG rv rs q
  match v, vs, rv, rs, q with
  | .ref n, [y], rv, rs, q =>
    simp only [fApp] at q
    cases e : G[n]? with
    | none => rw [e] at q; exact q.elim
    | some ob =>
      rw [e] at q
      cases ob with
      | lst zs =>
        simp only at q
        obtain ⟨a, ws, rfl, hn, hH, rz⟩ := mut_ok hG rv e
        obtain ⟨y', rfl, ry⟩ := rs.one
        by_cases hz : zs.length < szl
        · rw [if_pos hz] at q
          have gp : Gr H μ (upd H a (.lst (ws ++ [y']))) μ := Gr.put hG hn e
          exact ⟨a, ws, y', rfl, rfl, hH, by rw [← rz.length]; exact hz, q _ μ _ gp (hG.put (o := .lst (zs ++ [y])) hn e ⟨_, upd_same, (rz.app (.cons ry .nil)).gr gp⟩) .non⟩
        · rw [if_neg hz] at q
          exact q.elim
      | _ => exact q.elim
def fPopAt : AV → List AV → Hs → R AV
  | .ref n, [.int i], G => match G[n]? with
    | some (.lst xs) => if -(2 ^ 63) ≤ i ∧ i < 2 ^ 63 then match seqIndex? i xs.length with
      | some k => match xs[k]? with
        | some y => .ok y (G.set n (.lst (xs.eraseIdx k)))
        | none => .stuck
      | none => .stuck
      else .stuck
    | _ => .stuck
  | _, _, _ => .stuck
theorem opM_popAt {K : PySem.W.Frag} : OpM K rPopAt fPopAt := by
  intro W σ H μ G v vs x xs Q hG rv rs q
  match v, vs, rv, rs, q with
  | .ref n, [.int i], rv, rs, q =>
    obtain ⟨i', rfl, ri⟩ := rs.one
    cases ri
    simp only [fPopAt] at q
    cases e : G[n]? with
    | none => rw [e] at q; exact q.elim
    | some ob =>
      rw [e] at q
      cases ob with
      | lst zs =>
        simp only at q
        obtain ⟨a, ws, rfl, hn, hH, rz⟩ := mut_ok hG rv e
        by_cases hz : -(2 ^ 63) ≤ i ∧ i < 2 ^ 63
        · rw [if_pos hz] at q
          cases e1 : seqIndex? i zs.length with
          | none => rw [e1] at q; exact q.elim
          | some k =>
            rw [e1] at q
            simp only at q
            cases e2 : zs[k]? with
            | none => rw [e2] at q; exact q.elim
            | some y =>
              rw [e2] at q
              obtain ⟨y', hy, ry⟩ := rz.get' e2
              have gp : Gr H μ (upd H a (.lst (ws.eraseIdx k))) μ := Gr.put hG hn e
              exact ⟨a, ws, i, k, y', rfl, rfl, hH, hz.1, hz.2, by rw [← rz.length]; exact e1, hy, q _ μ _ gp (hG.put (o := .lst (zs.eraseIdx k)) hn e ⟨_, upd_same, (rz.erase k).gr gp⟩) (ry.gr gp)⟩
        · rw [if_neg hz] at q
          exact q.elim
      | _ => exact q.elim
end
end Vz
namespace Vz
open PySem L2
section
variable {K : PySem.W.Frag}
theorem op_lenA {X : Cx} : CallR X (.builtin "len") (rLenA X.K) := call_len.or call_lenD
theorem opN_len : OpN K (rLenA K) fLen := by
  intro W σ H μ G vs xs Q hG rs q
  match vs, rs, q with
  | [v], rs, q =>
    obtain ⟨y, rfl, r⟩ := rs.one
    cases r with
    | str s =>
      simp only [fLen] at q
      by_cases hz : s.length ≤ szl
      · rw [if_pos hz] at q
        exact .inl ⟨.str s, s.length, rfl, ⟨hz, rfl⟩, Po.now (v := AV.int s.length) q hG (.int _)⟩
      · rw [if_neg hz] at q
        exact q.elim
    | tup h rt =>
      refine .inl ⟨_, _, rfl, .inr ⟨_, SqT.of h, rfl⟩, ?_⟩
      rw [← rt.length]
      exact Po.now (v := AV.int _) q hG (.int _)
    | con h rt =>
      refine .inl ⟨_, _, rfl, .inr ⟨_, h.sq, rfl⟩, ?_⟩
      rw [← rt.length]
      exact Po.now (v := AV.int _) q hG (.int _)
    | lk h rt =>
      refine .inl ⟨_, _, rfl, .inl ⟨_, h.sq, rfl⟩, ?_⟩
      rw [← rt.length]
      exact Po.now (v := AV.int _) q hG (.int _)
    | ls h rt =>
      refine .inl ⟨_, _, rfl, .inl ⟨_, h.sq, rfl⟩, ?_⟩
      rw [← rt.length]
      exact Po.now (v := AV.int _) q hG (.int _)
    | ref h =>
      obtain ⟨ob, ho, ro⟩ := hG.obj h
      simp only [fLen, ho] at q
      cases ob with
      | lst zs =>
        obtain ⟨ws, h1, rt⟩ := ro
        refine .inl ⟨_, _, rfl, .inl ⟨_, SqL.of h1, rfl⟩, ?_⟩
        rw [← rt.length]
        exact Po.now (v := AV.int _) q hG (.int _)
      | dk zs =>
        obtain ⟨ws, h1, rf⟩ := ro
        refine .inr ⟨_, ws, rfl, h1, ?_⟩
        rw [← rf.length]
        exact Po.now (v := AV.int _) q hG (.int _)
      | _ => exact q.elim
    | id h hn en rt =>
      refine .inr ⟨_, _, rfl, h, ?_⟩
      rw [← List.length_map (f := (·.2)), ← rt.length]
      exact Po.now (v := AV.int _) q hG (.int _)
    | _ => exact q.elim
  | [], rs, q => exact q.elim
  | v :: _ :: _, rs, q => cases v <;> exact q.elim
/-- list(xs), tuple(xs) of lists and tuples -/
def fList : List AV → Hs → R AV
  | [v], G => match seqOf G v with
    | some xs => .ok (.ref G.length) (G ++ [.lst xs])
    | none => .stuck
  | _, _ => .stuck
theorem opN_list : OpN K (fun xs H Q => ∃ p ys, xs = [.ref p] ∧ (SqL K H p ys ∨ SqT K H p ys) ∧ ∀ l, H l = none → Q (.ref l) (upd H l (.lst ys))) fList := by
  intro W σ H μ G vs xs Q hG rs q
  match vs, rs, q with
  | [v], rs, q =>
    obtain ⟨y, rfl, r⟩ := rs.one
    simp only [fList] at q
    cases e : seqOf G v with
    | none => rw [e] at q; exact q.elim
    | some zs =>
      rw [e] at q
      obtain ⟨a, ws, rfl, hs, rt⟩ := seqOf_ok hG r e
      exact ⟨a, ws, rfl, hs, fun l hl => q _ _ _ (Gr.alloc hl) (hG.alloc hl ⟨_, upd_same, rt.gr (Gr.alloc hl)⟩) (.ref (hG.fresh l))⟩
def fTuple : List AV → Hs → R AV
  | [v], G => match tupOf v with
    | some _ => .ok v G
    | none => match lstOf G v with
      | some xs => .ok (.tup xs) G
      | none => .stuck
  | _, _ => .stuck
theorem opN_tuple : OpN K (fun xs H Q => ∃ p ys, xs = [.ref p] ∧ ((SqL K H p ys ∧ ∀ l, H l = none → Q (.ref l) (upd H l (.tup ys))) ∨ (SqT K H p ys ∧ Q (.ref p) H))) fTuple := by
  intro W σ H μ G vs xs Q hG rs q
  match vs, rs, q with
  | [v], rs, q =>
    obtain ⟨y, rfl, r⟩ := rs.one
    simp only [fTuple] at q
    cases e : tupOf v with
    | some zs =>
      rw [e] at q
      obtain ⟨a, ws, rfl, hs, rt⟩ := tupOf_ok r e
      exact ⟨a, ws, rfl, .inr ⟨hs, Po.now (v := v) q hG r⟩⟩
    | none =>
      rw [e] at q
      simp only at q
      cases e2 : lstOf G v with
      | none => rw [e2] at q; exact q.elim
      | some zs =>
        rw [e2] at q
        obtain ⟨a, ws, rfl, hs, rt⟩ := lstOf_ok hG r e2
        exact ⟨a, ws, rfl, .inl ⟨hs, fun l hl => q _ _ _ (Gr.new hl) (hG.new hl) (.tup upd_same (rt.gr (Gr.new hl)))⟩⟩
/-- all, any of a list of bools -/
def blsOf : List AV → Option (List Bool)
  | [] => some []
  | .bl b :: r => match blsOf r with
    | some l => some (b :: l)
    | none => none
  | _ => none
theorem blsOf_ok {H : Hp} {μ : Mu} : ∀ {xs : List AV} {vs : List V} {bs : List Bool}, RAs K H μ xs vs → blsOf xs = some bs → vs = bs.map V.bl
  | _, _, _, .nil, e => by cases e; rfl
  | _, _, bs, .cons (x := x) (xs := xs) r t, e => by
    cases r with
    | bl b =>
      simp only [blsOf] at e
      cases h : blsOf xs with
      | none => rw [h] at e; cases e
      | some l =>
        rw [h] at e
        cases e
        rw [List.map_cons, blsOf_ok t h]
    | _ => cases e
def fAll : List AV → Hs → R AV
  | [v], G => match lstOf G v with
    | some xs => match blsOf xs with
      | some bs => .ok (.bl (bs.all id)) G
      | none => .stuck
    | none => .stuck
  | _, _ => .stuck
theorem opN_all : OpN K (rAll K) fAll := by
  intro W σ H μ G vs xs Q hG rs q
  match vs, rs, q with
  | [v], rs, q =>
    obtain ⟨y, rfl, r⟩ := rs.one
    simp only [fAll] at q
    cases e : lstOf G v with
    | none => rw [e] at q; exact q.elim
    | some zs =>
      rw [e] at q
      simp only at q
      cases e2 : blsOf zs with
      | none => rw [e2] at q; exact q.elim
      | some bs =>
        rw [e2] at q
        obtain ⟨a, ws, rfl, hs, rt⟩ := lstOf_ok hG r e
        have ew := blsOf_ok rt e2
        subst ew
        exact ⟨a, bs, rfl, hs, Po.now (v := AV.bl _) q hG (.bl _)⟩
end
theorem xo_ok {P : Program} {w : World} {H : Hp} {h : Heap} {e : Addr} {C : Value} {d : Option Addr} {oe : Obj} {vs : Array Value} (he : h.get? e = some oe) (hz : Zc C d oe) (hd : oe.data = .fields vs) : ObjOk P w H h e (xo e C d) :=
  ⟨⟨oe, vs, he, hz, hd⟩, ⟨_, he⟩, fun h1 h2 z k => by
    obtain ⟨o, v, q, z, dd⟩ := z
    exact ⟨o, v, k _ q, z, dd⟩⟩
theorem xo_at {P : Program} {w : World} {H : Hp} {h : Heap} {e : Addr} {C : Value} {d : Option Addr} (hok : HOk P w H h) (he : H e = some (xo e C d)) : ∃ (oe : Obj) (vs : Array Value), h.get? e = some oe ∧ Zc C d oe ∧ oe.data = .fields vs := by
  have x : ObjOk P w H h e (.ext fun h => ∃ (oe : Obj) (vs : Array Value), h.get? e = some oe ∧ Zc C d oe ∧ oe.data = .fields vs) := hok e _ he
  exact x.1
def xcOk (c : Str) (K : PySem.W.Frag) : Bool := (PySem.W.clsIn K (ga K c)).isSome && (decide (PySem.W.findIn K (.ref (ga K c)) "__getattribute__" = some (some (.builtin "BaseException.__getattribute__"))) && (decide (PySem.W.findIn K (.ref (ga K c)) "__getattr__" = some none) &&
  (decide (PySem.W.subIn K (.ref (ga K c)) (.type "BaseException") = some true) && (decide (PySem.W.findIn K (.ref (ga K c)) "__class__" = some (some (.builtin "object.__class__"))) &&
  (decide (PySem.W.specialIn K (.builtin "object.__class__") "__get__" = some (some (.builtin "getset_descriptor.__get__"))) && (decide (PySem.W.takesIn K (.builtin "object.__class__") = some true) && (decide (PySem.W.mroIn K (ga K c) (.type "object") = some true) && PySem.W.hasDictIn K (ga K c))))))))
structure XcOk (c : Str) (K : PySem.W.Frag) : Prop where
  cl : (PySem.W.clsIn K (ga K c)).isSome = true
  hga : PySem.W.findIn K (.ref (ga K c)) "__getattribute__" = some (some (.builtin "BaseException.__getattribute__"))
  hgt : PySem.W.findIn K (.ref (ga K c)) "__getattr__" = some none
  hs : PySem.W.subIn K (.ref (ga K c)) (.type "BaseException") = some true
  ha : PySem.W.findIn K (.ref (ga K c)) "__class__" = some (some (.builtin "object.__class__"))
  hn : PySem.W.specialIn K (.builtin "object.__class__") "__get__" = some (some (.builtin "getset_descriptor.__get__"))
  ht : PySem.W.takesIn K (.builtin "object.__class__") = some true
  hm : PySem.W.mroIn K (ga K c) (.type "object") = some true
  hd : PySem.W.hasDictIn K (ga K c) = true
theorem xcOk_ok {c : Str} {K : PySem.W.Frag} (h : xcOk c K = true) : XcOk c K := by
  obtain ⟨h1, h⟩ := He.ba h
  obtain ⟨h2, h⟩ := He.ba h
  obtain ⟨h3, h⟩ := He.ba h
  obtain ⟨h4, h⟩ := He.ba h
  obtain ⟨h5, h⟩ := He.ba h
  obtain ⟨h6, h⟩ := He.ba h
  obtain ⟨h7, h⟩ := He.ba h
  obtain ⟨h8, h9⟩ := He.ba h
  exact ⟨h1, of_decide_eq_true h2, of_decide_eq_true h3, of_decide_eq_true h4, of_decide_eq_true h5, of_decide_eq_true h6, of_decide_eq_true h7, of_decide_eq_true h8, h9⟩
/-- isinstance(e, c), e a tracked exception -/
def rIsX (K : PySem.W.Frag) : List V → Hp → VK → Prop := fun xs H Q => ∃ (a : Addr) (n : Str) (d : Option Addr) (c : V) (u : Value) (b : Bool), xs = [.ref a, c] ∧ ClsV c u ∧ H a = some (xo a (.ref (ga K n)) d) ∧ (∀ dx, d = some dx → ∃ gs, H dx = some (.xd gs)) ∧ xcOk n K = true ∧
  PySem.W.kitOne K (.ref (ga K n)) u = some b ∧ Q (.bl b) H
def rIsA (K : PySem.W.Frag) : List V → Hp → VK → Prop := fun xs H Q => rIsi K xs H Q ∨ rIsX K xs H Q
theorem instAt_xo {X : Cx} {pins : List (Addr × Obj)} {σ : St} {H : Hp} {s : Shared} {a C : Addr} {d : Option Addr} (I : Inv X pins σ H s) (hx : H a = some (xo a (.ref C) d)) (hd : ∀ dx, d = some dx → ∃ gs, H dx = some (.xd gs)) :
    ∃ (oe : Obj) (od : Option Obj), PySem.W.InstAt s.heap a oe C od := by
  obtain ⟨oe, vs, ha, hz, hf⟩ := xo_at I.hok hx
  cases d with
  | none => exact ⟨oe, none, ha, hz.1, by unfold PySem.W.notCls; rw [hf] <;> rfl, by rw [hz.2]; trivial⟩
  | some dx =>
    obtain ⟨gs, hg⟩ := hd dx rfl
    have hx : ObjOk X.prog X.w H s.heap dx (.xd gs) := I.hok dx _ hg
    obtain ⟨mA, hns, hr⟩ := hx
    obtain ⟨od, ho, hl⟩ := lookIn_ns hns
    exact ⟨oe, some od, ha, hz.1, by unfold PySem.W.notCls; rw [hf] <;> rfl, by rw [hz.2]; exact ho⟩
theorem call_isX {X : Cx} : CallR X (.builtin "isinstance") (rIsX X.K) := by
  intro pins s σ H xs us Q I r h
  obtain ⟨a, n, d, c, u, b, rfl, k, hx, hd, hc, e, q⟩ := h
  obtain ⟨u1, u2, rfl, r1, r2⟩ := vals2 r
  have e2 := k.eq r2
  subst e2
  obtain rfl : u1 = Value.ref a := r1
  obtain ⟨oe, od, J⟩ := instAt_xo I hx hd
  have C := xcOk_ok hc
  exact PySem.W.kia_one (PySem.W.kitx_exc C.cl C.hga C.hgt C.hs C.ha C.hn C.ht C.hm) I.kIn J e (fun z => nomatch z) fun tk => ⟨.bl b, H, I.kept (t' := tk) fun _ _ z => z, rfl, q⟩
theorem call_isA {X : Cx} : CallR X (.builtin "isinstance") (rIsA X.K) := by
  intro pins s σ H xs us Q I r h
  rcases h with h | h
  · exact call_isi pins s σ H xs us Q I r h
  · exact call_isX pins s σ H xs us Q I r h
section
variable {X : Cx} {W : WX} {a b c e o i value : Expr} {es rest : List Expr} {m ma mb mc mo mi mv : ME} {t : MB} {ms mk : MEs} {pos pos' p q' apos cpos tpos : Pos} {x y : Str} {k N n : Nat} {f : Addr} {fd : FuncData} {ps ks : List Str} {F : List AV → Hs → R AV} {gA : List AV → List AV → List AV} {kws : List Keyword}
/-- the type of a value -/
inductive Ty where
  | b (n : String) | c (n : Str) | x (n : Str)
  deriving DecidableEq
def tyA (G : Hs) : AV → Option Ty
  | .non => some (.b "NoneType")
  | .bl _ => some (.b "bool")
  | .int _ => some (.b "int")
  | .str _ => some (.b "str")
  | .tup _ => some (.b "tuple")
  | .con _ => some (.b "tuple")
  | .lk _ => some (.b "list")
  | .ls _ => some (.b "list")
  | .iv c _ _ => some (.c c)
  | .id _ _ => some (.b "dict")
  | .it _ _ => some (.b "dict")
  | .xv c _ _ => some (.x c)
  | .ref n => match G[n]? with
    | some (.lst _) => some (.b "list")
    | some (.dk _) => some (.b "dict")
    | some (.dt _) => some (.b "dict")
    | some (.ins c _) => some (.c c)
    | _ => none
def Ty.v (K : PySem.W.Frag) : Ty → Value
  | .b n => .type n
  | .c n => .ref (ga K n)
  | .x n => .ref (ga K n)
def clsOk (c : Str) (K : PySem.W.Frag) : Bool := (He.Fa.cls c).ok K && (decide (PySem.W.findIn K (.ref (ga K c)) "__class__" = some (some (.builtin "object.__class__"))) &&
  (decide (PySem.W.specialIn K (.builtin "object.__class__") "__get__" = some (some (.builtin "getset_descriptor.__get__"))) && (decide (PySem.W.takesIn K (.builtin "object.__class__") = some true) && decide (PySem.W.mroIn K (ga K c) (.type "object") = some true))))
/-- the table of answers: of a type, whether it is one of T -/
def isTab (tab : List (Ty × Bool)) (t : Value) (K : PySem.W.Frag) : Bool := tab.all fun q => decide (PySem.W.kitOne K (q.1.v K) t = some q.2) && match q.1 with
  | .b _ => true
  | .c n => clsOk n K
  | .x n => xcOk n K
def fIsi (tab : List (Ty × Bool)) (v : AV) (G : Hs) : R AV := match tyA G v with
  | some t => match tab.lookup t with
    | some b => .ok (.bl b) G
    | none => .stuck
  | none => .stuck
theorem lookup_mem' {α β : Type} [BEq α] [LawfulBEq α] {k : α} {v : β} : ∀ {l : List (α × β)}, l.lookup k = some v → (k, v) ∈ l
  | [], h => by cases h
  | (a, b) :: r, h => by
    rw [List.lookup_cons] at h
    cases e : (k == a) with
    | true =>
      rw [e] at h
      cases h
      rw [eq_of_beq e]
      exact List.mem_cons_self ..
    | false =>
      rw [e] at h
      exact List.mem_cons_of_mem _ (lookup_mem' h)
theorem isi_ok {K : PySem.W.Frag} {H : Hp} {μ : Mu} {G : Hs} {v : AV} {x c : V} {u : Value} {Q : VK} {tab : List (Ty × Bool)} (W : WX) (σ : St) (hG : RH K H μ G) (r : RA K H μ v x) (hT : isTab tab u K = true) (hc : ClsV c u) (q : Po K (rA K) W σ H μ (fIsi tab v G) Q) : rIsA K [x, c] H Q := by
  unfold fIsi at q
  cases e : tyA G v with
  | none => rw [e] at q; exact q.elim
  | some ty =>
    rw [e] at q
    simp only at q
    cases e2 : tab.lookup ty with
    | none => rw [e2] at q; exact q.elim
    | some b =>
      rw [e2] at q
      have hm := List.all_eq_true.mp hT _ (lookup_mem' e2)
      obtain ⟨h1, h2⟩ := He.ba hm
      have q' := Po.now (v := AV.bl b) q hG (.bl b)
      have ini : TyX K H x (ty.v K) → rIsA K [x, c] H Q := fun z => .inl ⟨x, c, ty.v K, u, b, rfl, hc, z, of_decide_eq_true h1, q'⟩
      cases r with
      | xv0 h3 _ => cases e; exact .inr ⟨_, _, none, c, u, b, rfl, hc, h3, (fun _ z => by cases z), h2, of_decide_eq_true h1, q'⟩
      | xv h3 _ h4 _ _ _ => cases e; exact .inr ⟨_, _, some _, c, u, b, rfl, hc, h3, (fun _ z => by cases z; exact ⟨_, h4⟩), h2, of_decide_eq_true h1, q'⟩
      | non => cases e; exact ini (.base .non)
      | bl b => cases e; exact ini (.base (.bl b))
      | int b => cases e; exact ini (.base (.int b))
      | str b => cases e; exact ini (.base (.str b))
      | tup h rt => cases e; exact ini (.base (.tup h))
      | con h rt =>
        cases e
        obtain ⟨o, its, n, h3, h4, _⟩ := h
        exact ini (.kTuple h3 h4)
      | lk h rt =>
        cases e
        rcases h with ⟨o, h⟩ | ⟨o, its, n, h3, h4, _⟩
        · exact ini (.base (.frz h))
        · exact ini (.kList h3 h4)
      | ls h rt => cases e; exact ini (.base (.lst h.1))
      | iv h3 _ _ _ =>
        cases e
        have h2 : clsOk _ K = true := h2
        obtain ⟨k1, k2⟩ := He.ba h2
        obtain ⟨k2, k3⟩ := He.ba k2
        obtain ⟨k3, k4⟩ := He.ba k3
        obtain ⟨k4, k5⟩ := He.ba k4
        exact ini (.base (.ins h3 (He.cls_ok k1) (of_decide_eq_true k2) (of_decide_eq_true k3) (of_decide_eq_true k4) (of_decide_eq_true k5)))
      | id h3 _ _ _ => cases e; exact ini (.base (.dK h3))
      | it h3 _ _ _ => cases e; exact ini (.base (.dT h3))
      | ref h =>
        obtain ⟨ob, ho, ro⟩ := hG.obj h
        simp only [tyA, ho] at e
        cases ob with
        | lst zs => cases e; obtain ⟨ws, h3, _⟩ := ro; exact ini (.base (.lst h3))
        | dk zs => cases e; obtain ⟨ws, h3, _⟩ := ro; exact ini (.base (.dK h3))
        | dt zs => cases e; obtain ⟨ws, h3, _⟩ := ro; exact ini (.base (.dT h3))
        | ins cn zs =>
          cases e
          obtain ⟨dx, gs, h3, _⟩ := ro
          have h2 : clsOk cn K = true := h2
          obtain ⟨k1, k2⟩ := He.ba h2
          obtain ⟨k2, k3⟩ := He.ba k2
          obtain ⟨k3, k4⟩ := He.ba k3
          obtain ⟨k4, k5⟩ := He.ba k4
          exact ini (.base (.ins h3 (He.cls_ok k1) (of_decide_eq_true k2) (of_decide_eq_true k3) (of_decide_eq_true k4) (of_decide_eq_true k5)))
        | xd zs => cases e
        | gone => cases e
theorem se_isi {cv : V} {u : Value} {tab : List (Ty × Bool)} (hT : isTab tab u X.K = true) (hc : ClsV cv u) (hg : Gl X "isinstance") (hm : X.mg "isinstance" = none) (ha : SE X W a m) (hb : PE X b (tC cv))
    (he : starEach [a, b] X.env = (false, eval a X.env) :: starEach [b] X.env := by rfl) (hs2 : starEach [b] X.env = (false, eval b X.env) :: starEach [] X.env := by rfl) (hpl : (backTo pos (starEach [b] X.env)).any (·.1) = false := by rfl) :
    SE X W (.Call (.Name "isinstance" p) [a, b] [] pos) (m1 (fIsi tab) m) := by
  refine PE.imp (pe_callB call_isA hg hm PyProof.Rows.boot_isinstance (pa_cons ha (pa_cons hb pa_nil hs2) he) (by decide) (by decide) he hpl) fun σ H Q ⟨ρ, μ, G, hσ, hG, h⟩ => tG.bind hσ hG h fun v G1 H1 μ1 x g1 hσ1 hG1 r h1 => ?_
  exact isi_ok W σ hG1 r hT hc h1
theorem pe_own {C : Addr} (hg : Gl X x) (hm : X.mg x = some (.ref C)) (hd : (x == ("__debug__" : Str)) = false := by decide) : PE X (.Name x pos) (tC (.ref C)) := pe_glob hg hm rfl hd
def putFA (f : Str) (v : AV) : List (Str × AV) → List (Str × AV)
  | [] => [(f, v)]
  | (g, u) :: r => if g = f then (g, v) :: r else (g, u) :: putFA f v r
theorem putF_ok {K : PySem.W.Frag} {H : Hp} {μ : Mu} {f : Str} {v : AV} {x : V} (r : RA K H μ v x) : ∀ {fs : List (Str × AV)} {gs : List (Str × V)}, RF K H μ fs gs → RF K H μ (putFA f v fs) (putF f x gs)
  | [], gs, h => by
    cases gs with
    | nil => exact .cons r .nil'
    | cons g gs => cases h.1
  | (g, u) :: fs, gs, h => by
    obtain ⟨z, gs', rfl, r', t⟩ := h.cons_inv
    show RF K H μ (if g = f then (g, v) :: fs else (g, u) :: putFA f v fs) (if g = f then (g, x) :: gs' else (g, z) :: putF f x gs')
    by_cases e : g = f
    · rw [if_pos e, if_pos e]
      exact .cons r t
    · rw [if_neg e, if_neg e]
      exact .cons r' (putF_ok r t)
def fSt (cs : List Str) (f : Str) (v u : AV) (G : Hs) : R Unit := match v with
  | .ref n => match G[n]? with
    | some (.ins c fs) => if c ∈ cs ∧ fs.length < 1000 then .ok () (G.set n (.ins c (putFA f u fs))) else .stuck
    | _ => .stuck
  | _ => .stuck
def mFst (cs : List Str) (f : Str) (mo mv : ME) : MS := fun ρ G => (mv ρ G).toS ρ fun u G1 => (mo ρ G1).toS ρ fun v G2 => (fSt cs f v u G2).toS ρ fun _ G3 => .nx ρ G3
theorem ss_fld {f : Str} (cs : List Str) (hc : (cs.all fun c => attrOk f c X.K) = true) (ho : SE X W o mo) (hv : SE X W value mv) (hs : swapsWith value (some (.Attribute o f pos')) pos.line X.env = pure false) : SS X W (.Assign [.Attribute o f pos'] value pos) (mFst cs f mo mv) := by
  refine PS.imp (ps_fld ho hv hs) fun D σ H ⟨ρ, μ, G, hσ, hG, h⟩ => tG.toS hσ hG h fun u G1 H1 μ1 x1 g1 hσ1 hG1 ru h1 => tG.toS hσ1 hG1 h1 fun v G2 H2 μ2 x2 g2 hσ2 hG2 rv h2 => ?_
  cases rv with
  | ref hn =>
    obtain ⟨ob, hob, ro⟩ := hG2.obj hn
    simp only [fSt, hob] at h2
    cases ob with
    | ins c fs =>
      simp only at h2
      by_cases hz : c ∈ cs ∧ fs.length < 1000
      · rw [if_pos hz] at h2
        obtain ⟨dx, gs, h3, rf⟩ := ro
        obtain ⟨k1, k2⟩ := attrOk_ok (List.all_eq_true.mp hc c hz.1)
        have gp : Gr H2 μ2 (upd H2 _ (.ins (ga X.K c) dx (putF f x1 gs))) μ2 := Gr.put hG2 hn hob
        exact ⟨_, _, dx, gs, rfl, h3, k1, k2, by rw [← rf.length]; exact hz.2, h2 _ μ2 σ gp (hG2.put (o := .ins c (putFA f u fs)) hn hob ⟨dx, _, upd_same, (putF_ok (ru.gr g2) rf).gr gp⟩) (hσ2.gr gp)⟩
      · rw [if_neg hz] at h2
        exact h2.elim
    | _ => exact h2.elim
  | _ => exact h2.elim
end
end Vz
namespace Vz
open PySem L2
section
variable {X : Cx} {W : WX} {a b c e o : Expr} {es rest : List Expr} {m ma mb mc mo : ME} {ms mk : MEs} {pos p apos cpos : Pos} {x : Str}
/-- x stands for v in the text's own names -/
def conI (x : Str) (i : Int) (K : PySem.W.Frag) : Bool := (He.Fa.int x i).ok K
def conS (x z : Str) (K : PySem.W.Frag) : Bool := (He.Fa.str x z).ok K
theorem se_glI {i : Int} (hg : Gl X x) (hm : ∃ t, X.mg x = some (.int i t)) (hd : (x == ("__debug__" : Str)) = false := by decide) : SE X W (.Name x pos) (mC (.int i)) :=
  let ⟨t, h⟩ := hm
  se_c (pe_glob (v := .int i) hg h ⟨t, rfl⟩ hd) fun _ _ => .int i
theorem se_glS {i : Str} (hg : Gl X x) (hm : ∃ t, X.mg x = some (.str i t)) (hd : (x == ("__debug__" : Str)) = false := by decide) : SE X W (.Name x pos) (mC (.str i)) :=
  let ⟨t, h⟩ := hm
  se_c (pe_glob (v := .str i) hg h ⟨t, rfl⟩ hd) fun _ _ => .str i
/-- a flat value -/
def fl : AV → Option V
  | .non => some .non
  | .bl b => some (.bl b)
  | .int i => some (.int i)
  | .str s => some (.str s)
  | _ => none
theorem fl_ok {K : PySem.W.Frag} {H : Hp} {μ : Mu} {v : AV} {y : V} (e : fl v = some y) : RA K H μ v y := by
  cases v with
  | non => cases e; exact .non
  | bl b => cases e; exact .bl b
  | int b => cases e; exact .int b
  | str b => cases e; exact .str b
  | _ => cases e
theorem fls_ok {K : PySem.W.Frag} {H : Hp} {μ : Mu} : ∀ {vs : List AV} {ys : List V}, vs.map fl = ys.map some → RAs K H μ vs ys
  | [], [], _ => .nil
  | [], _ :: _, e => by cases e
  | _ :: _, [], e => by cases e
  | v :: vs, y :: ys, e => by
    rw [List.map_cons, List.map_cons] at e
    injection e with e1 e2
    exact .cons (fl_ok e1) (fls_ok e2)
theorem tupB_k {K : PySem.W.Frag} {x : Str} {vs : List He.Dv} (h : He.tupB K x vs = true) : KTup K (ga K x) (vs.map (He.Dv.v K)) := by
  have := He.tupB_ok h (fun _ => none)
  rcases this with (h | ⟨o, h⟩) | h
  · cases h
  · cases h
  · exact h
def dvOf : AV → He.Dv
  | .bl b => .bl b
  | .int i => .int i
  | .str s => .str s
  | _ => .non
def flB (v : AV) : Bool := (fl v).isSome
theorem dvOf_ok {K : PySem.W.Frag} {v : AV} (h : flB v = true) : fl v = some ((dvOf v).v K) := by
  cases v <;> first | rfl | cases h
def conT (x : Str) (vs : List AV) (K : PySem.W.Frag) : Bool := vs.all flB && He.tupB K x (vs.map dvOf)
theorem dvs_ok {K : PySem.W.Frag} {H : Hp} {μ : Mu} {vs : List AV} (h : vs.all flB = true) : RAs K H μ vs ((vs.map dvOf).map (He.Dv.v K)) := by
  refine fls_ok ?_
  rw [List.map_map, List.map_map]
  refine List.map_congr_left fun v hv => ?_
  exact dvOf_ok (List.all_eq_true.mp h v hv)
theorem se_glT {vs : List AV} (hg : Gl X x) (hm : X.mg x = some (.ref (ga X.K x))) (h : conT x vs X.K = true) (hd : (x == ("__debug__" : Str)) = false := by decide) : SE X W (.Name x pos) (mC (.con vs)) := by
  obtain ⟨h1, h2⟩ := He.ba h
  exact se_c (pe_glob (v := .ref (ga X.K x)) hg hm rfl hd) fun H μ => .con (tupB_k h2) (dvs_ok h1)
end
inductive Arg where
  | p (i : Nat) | k (j : Nat) | d (j : Nat)
def gP {α : Type} (ds : List α) (π : List Arg) (us ws : List α) : List α := π.filterMap fun q => match q with
  | .p i => us[i]?
  | .k j => ws[j]?
  | .d j => ds[j]?
theorem Vals.get? : ∀ {vs : List V} {us : List Value} (r : Vals vs us) (i : Nat), (vs[i]? = none ∧ us[i]? = none) ∨ ∃ v u, vs[i]? = some v ∧ us[i]? = some u ∧ RelV v u
  | _, _, .nil, i => .inl ⟨rfl, rfl⟩
  | _, _, .cons r t, 0 => .inr ⟨_, _, rfl, rfl, r⟩
  | _, _, .cons r t, i + 1 => by
    rw [List.getElem?_cons_succ, List.getElem?_cons_succ]
    exact Vals.get? t i
theorem RAs.get? {K : PySem.W.Frag} {H : Hp} {μ : Mu} : ∀ {vs : List AV} {us : List V} (r : RAs K H μ vs us) (i : Nat), (vs[i]? = none ∧ us[i]? = none) ∨ ∃ v u, vs[i]? = some v ∧ us[i]? = some u ∧ RA K H μ v u
  | _, _, .nil, i => .inl ⟨rfl, rfl⟩
  | _, _, .cons r t, 0 => .inr ⟨_, _, rfl, rfl, r⟩
  | _, _, .cons r t, i + 1 => by
    rw [List.getElem?_cons_succ, List.getElem?_cons_succ]
    exact RAs.get? t i
theorem gP_vals {ds : List V} {es : List Value} {vs : List V} {us : List Value} {zs : List V} {ws : List Value} (rd : Vals ds es) (r : Vals vs us) (rz : Vals zs ws) : ∀ π : List Arg, Vals (gP ds π vs zs) (gP es π us ws)
  | [] => .nil
  | q :: π => by
    have ih := gP_vals rd r rz π
    unfold gP at ih ⊢
    have h : ∃ o1 o2, (match q with | .p i => vs[i]? | .k j => zs[j]? | .d j => ds[j]?) = o1 ∧ (match q with | .p i => us[i]? | .k j => ws[j]? | .d j => es[j]?) = o2 ∧ ((o1 = none ∧ o2 = none) ∨ ∃ v u, o1 = some v ∧ o2 = some u ∧ RelV v u) := by
      cases q with
      | p i => exact ⟨_, _, rfl, rfl, Vals.get? r i⟩
      | k i => exact ⟨_, _, rfl, rfl, Vals.get? rz i⟩
      | d i => exact ⟨_, _, rfl, rfl, Vals.get? rd i⟩
    obtain ⟨o1, o2, e1, e2, h⟩ := h
    rw [List.filterMap_cons, List.filterMap_cons, e1, e2]
    rcases h with ⟨rfl, rfl⟩ | ⟨v, u, rfl, rfl, h⟩
    · exact ih
    · exact .cons h ih
theorem gP_ras {K : PySem.W.Frag} {H : Hp} {μ : Mu} {ds : List AV} {es : List V} {vs : List AV} {us : List V} {zs : List AV} {ws : List V} (rd : RAs K H μ ds es) (r : RAs K H μ vs us) (rz : RAs K H μ zs ws) : ∀ π : List Arg, RAs K H μ (gP ds π vs zs) (gP es π us ws)
  | [] => .nil
  | q :: π => by
    have ih := gP_ras rd r rz π
    unfold gP at ih ⊢
    have h : ∃ o1 o2, (match q with | .p i => vs[i]? | .k j => zs[j]? | .d j => ds[j]?) = o1 ∧ (match q with | .p i => us[i]? | .k j => ws[j]? | .d j => es[j]?) = o2 ∧ ((o1 = none ∧ o2 = none) ∨ ∃ v u, o1 = some v ∧ o2 = some u ∧ RA K H μ v u) := by
      cases q with
      | p i => exact ⟨_, _, rfl, rfl, RAs.get? r i⟩
      | k i => exact ⟨_, _, rfl, rfl, RAs.get? rz i⟩
      | d i => exact ⟨_, _, rfl, rfl, RAs.get? rd i⟩
    obtain ⟨o1, o2, e1, e2, h⟩ := h
    rw [List.filterMap_cons, List.filterMap_cons, e1, e2]
    rcases h with ⟨rfl, rfl⟩ | ⟨v, u, rfl, rfl, h⟩
    · exact ih
    · exact .cons h ih
section
variable {K : PySem.W.Frag} {x qual : Str} {params : Arguments} {body : List Stmt} {scope : Scope} {dvs : List V} {kws : List (Str × V)} {f : Addr} {fd : FuncData} {ps : List Str}
theorem sh_n (F : FunD K x qual params body scope [] kws f fd) (n : Nat) (ks : List Str) (π : List Arg)
    (h : ∀ (kV doc pm : Value) (an : Option Addr) (cdv ct : Value) (us ws : List Value), us.length = n → ws.length = ks.length → bindArgs (PySem.W.fnOf x qual params body scope .none kV doc pm an cdv ct) ⟨us, ks.zip ws⟩ = pure (ps.zip (gP [] π us ws))) :
    Sh K fd ps n ks (gP [] π) := by
  obtain ⟨oc, od, dV, kV, doc, pm, an, cdv, ct, osl, rfl, lk, hcd, hD, hK⟩ := F.ex
  rcases hD with ⟨_, rfl⟩ | ⟨e, _⟩
  · exact ⟨gP [] π, gP [] π, ⟨fun s us ws _ l1 l2 => .of_eq (h kV doc pm an cdv ct us ws l1 l2), fun r rz => gP_vals .nil r rz π⟩, fun H μ xs vs zs ws r rz => gP_ras .nil r rz π⟩
  · exact absurd rfl e
end
abbrev Shp := Nat × List Str × (List AV → List AV → List AV)
structure Fk (P : Program) (w : World) (K : PySem.W.Frag) (mg : Str → Option Value) (base : Heap) (k : Nat) (x : Str) (ps : List Str) (F : List AV → Hs → R AV) (shs : List Shp) : Prop where
  at_ : mg x = some (.ref (ga K x))
  kp : PySem.W.keepIn K (.ref (ga K x)) = true
  ex : ∃ fd, FnG P w K mg base (CX P w) k (ga K x) fd ps (fsp K ps.length F) ∧ ∀ s ∈ shs, Sh K fd ps s.1 s.2.1 s.2.2
section
variable {X : Cx} {W : WX} {a b c e o : Expr} {es rest : List Expr} {m ma mb mc mo : ME} {ms mk : MEs} {pos p apos cpos : Pos} {x : Str} {kws : List Keyword} {ps : List Str} {F : List AV → Hs → R AV} {shs : List Shp} {k n : Nat} {ks : List Str} {gA : List AV → List AV → List AV}
theorem se_fk (D : Fk X.prog X.w X.K X.mg X.base k x ps F shs) (i : Nat) (hr : Rm k X.A) (tk : Takes X W) (hg : Gl X x) (ha : SA X W (e :: es) ms) (hi : shs[i]? = some (n, [], gA) := by rfl)
    (hdb : (x == ("__debug__" : Str)) = false := by decide) (he : starEach (e :: es) X.env = (false, eval e X.env) :: starEach es X.env := by rfl) (hpl : (backTo pos (starEach es X.env)).any (·.1) = false := by rfl) :
    SE X W (.Call (.Name x p) (e :: es) [] pos) (mCall ps.length n 0 gA F ms mNil) :=
  let ⟨_, h, hs⟩ := D.ex
  se_call h hr (hs _ (List.mem_of_getElem? hi)) tk hg D.at_ D.kp ha hdb he hpl
end
end Vz
namespace Vz
open PySem L2
abbrev Fx : Type := PySem.W.Frag → Bool
def lookX (fx : List Fx) (fn : List He.DefD) (K : PySem.W.Frag) : He.AlD := (fx.all (fun f => f K) && fn.all (fun d => d.ok K), fn.map fun d => He.fnW K d.at_)
structure Told (fx : List Fx) (fn : List He.DefD) (K : PySem.W.Frag) : Prop where
  eq : lookX fx fn K = He.valD fn
section
variable {fx : List Fx} {fn : List He.DefD} {K : PySem.W.Frag}
theorem Told.f_ (t : Told fx fn K) (i : Nat) {f : Fx} (q : fx[i]? = some f := by rfl) : f K = true :=
  List.all_eq_true.mp (He.ba (congrArg Prod.fst t.eq)).1 f (List.mem_of_getElem? q)
theorem Told.d_ (t : Told fx fn K) (i : Nat) {d : He.DefD} (q : fn[i]? = some d := by rfl) : ∃ fd, FunD K d.name d.qual d.params d.body d.scope (d.dvs K) (d.kws K) (He.fAd K d.at_) fd := by
  have k1 := List.all_eq_true.mp (He.ba (congrArg Prod.fst t.eq)).2 d (List.mem_of_getElem? q)
  have k2 := congrArg (fun l : List He.FnW => l[i]?) (congrArg Prod.snd t.eq)
  simp only [lookX, He.valD, List.getElem?_map, q, Option.map_some, Option.some.injEq] at k2
  exact He.DefD.funD k2 k1
end
/-- the module's names stand as the text's own part has them -/
def Mg (K : PySem.W.Frag) (mg : Str → Option Value) : Prop := ∃ hp : Heap, K.In hp ∧ hp.Ns mainGlobals mg
def glo (x : Str) : Fx := fun K => (He.Fa.glo x).ok K
def free (x : Str) : Fx := fun K => (He.Fa.free x).ok K
section
variable {K : PySem.W.Frag} {mg : Str → Option Value} {x : Str}
theorem Mg.glo (m : Mg K mg) (q : glo x K = true) : mg x = some (.ref (ga K x)) := let ⟨_, i, g⟩ := m; He.glo_ok i g q
theorem Mg.free (m : Mg K mg) (q : free x K = true) : mg x = none := let ⟨_, i, g⟩ := m; He.free_ok i g q
theorem Mg.int (m : Mg K mg) {z : Int} (q : conI x z K = true) : ∃ t, mg x = some (.int z t) := let ⟨_, i, g⟩ := m; He.int_ok i g q
theorem Mg.str (m : Mg K mg) {z : Str} (q : conS x z K = true) : ∃ t, mg x = some (.str z t) := let ⟨_, i, g⟩ := m; He.str_ok i g q
end
theorem cx_none {P : Program} {w : World} {H : Hp} {s : Shared} {e : Value} {s' : Shared} : CX P w [] H s (fun _ _ _ => False) e s' → False := fun ⟨_, _, _, _, _, _, _, _, _, _, _, _, z⟩ => z
def scriptAV (ns : List Int) : AV := .lk (ns.map AV.int)
theorem ints_ra {K : PySem.W.Frag} {H : Hp} {μ : Mu} : ∀ ns : List Int, RAs K H μ (ns.map AV.int) (ns.map V.int)
  | [] => .nil
  | n :: ns => .cons (.int n) (ints_ra ns)
theorem begins {K : PySem.W.Frag} {H : Hp} (ho : Only H) : RH K H [] [] := by
  exact ⟨rfl, fun n m a e => by simp at e, fun n a o e => (by simp at e), fun n e => by simp at e⟩
theorem walkX {l : PySem.W.OpenLaw} {n k : Nat} {q : Program} {loose : List Str} {XP : (Str → Option Value) → Heap → Prop} {YP : World → Heap → Prop} {d : DefRec} {x : Str}
    (hn : l.most = some n) (hz : n ≤ sizeLine) (hd : d.params.defaults = []) (room : Rm k callerA)
    (F : ∀ (w : World) (mg : Str → Option Value) (fa : Addr) (hp : Heap), YP w hp → hp.Ns mainGlobals mg → mg d.name = some (.ref fa) →
      ∃ (K : PySem.W.Frag) (fd : FuncData) (b : List AV → Hs → R AV), K.In hp ∧ (∀ (s : Shared) (u : Value), BindsTo s fd ⟨[u], []⟩ [(x, u)]) ∧
        (∀ ns : List Int, ns.length ≤ n → ∃ G, b [scriptAV ns] [] = .ok (.bl true) G) ∧
        ∀ base : Heap, K.In base → base.Ns mainGlobals mg → FnG l.prog w K mg base (CX l.prog w) k fa fd [x] (fsp K 1 b)) :
    PySem.W.WalkO q loose XP YP l.row.toRowW d [] (fun f vs => PySem.call f vs) := by
  refine Att.attach_call hn hd fun w s0 s1 mg mb fa o pm cd doc a vs ns G Y ho hdt hcr hmg hob hin hlen hge => ?_
  obtain ⟨K, fd, b, KX, hb, hp, hF⟩ := F w mg fa _ Y G.T.g hmg
  refine lawG_call KX G.T.g G.T.b G.T.builtins G.T.nolimit hge hob hin (Nat.le_trans hlen hz) room hF hb (fun H hO hS => ?_) fun H e s' => cx_none
  obtain ⟨G', e⟩ := hp ns hlen
  have hk : KLst K H a (ns.map V.int) := by
    rcases hS with (h | h) | h
    · rcases hO a with z | ⟨o, xs, z⟩
      · rw [z] at h; cases h
      · rw [z] at h; cases h
    · obtain ⟨o, h⟩ := h
      exact .inl ⟨o, h⟩
    · exact .inr h
  refine ⟨rfl, [scriptAV ns], [], [], .cons (.lk hk (ints_ra ns)) .nil, begins hO, ?_⟩
  rw [e]
  intro H' μ' v g hG r
  cases r
  rfl
end Vz
namespace Vz
open PySem L2
def AllSh (K : PySem.W.Frag) (fd : FuncData) (ps : List Str) : List Shp → Prop
  | [] => True
  | s :: r => Sh K fd ps s.1 s.2.1 s.2.2 ∧ AllSh K fd ps r
theorem shs_all {K : PySem.W.Frag} {fd : FuncData} {ps : List Str} : ∀ {l : List Shp}, AllSh K fd ps l → ∀ s ∈ l, Sh K fd ps s.1 s.2.1 s.2.2
  | [], _, _, h => nomatch h
  | a :: r, ⟨h1, h2⟩, s, h => by
    rcases List.mem_cons.mp h with e | h
    · rw [e]; exact h1
    · exact shs_all h2 s h
def blkB (N : List Str) (sc scope : Scope) (own : List (Str × Nat)) : Bool :=
  decide (scope.kind = .function) && (scope.names.all (fun y => decide (scope.names.lookup y.1 = some y.2)) && (own.all (fun p => decide (N[p.2]? = some p.1)) &&
    (scope.names.all (fun y => decide (y.2 ≠ .free) || (decide (sc.names.lookup y.1 = some .cell) || decide (sc.names.lookup y.1 = some .free))) &&
      scope.names.all fun y => (decide (y.2 ≠ .local) && decide (y.2 ≠ .cell)) || (decide (y.1 ∈ own.map (·.1)) || decide (y.1 ∉ N)))))
theorem blk_of {N : List Str} {sc scope : Scope} {own : List (Str × Nat)} (h : blkB N sc scope own = true) : BlkOk N sc scope own := by
  unfold blkB at h
  obtain ⟨h1, h⟩ := He.ba h
  obtain ⟨h2, h⟩ := He.ba h
  obtain ⟨h3, h⟩ := He.ba h
  obtain ⟨h4, h5⟩ := He.ba h
  refine ⟨of_decide_eq_true h1, fun y hy => of_decide_eq_true (List.all_eq_true.mp h2 y hy), fun p hp => of_decide_eq_true (List.all_eq_true.mp h3 p hp), fun y hy e => ?_, fun y hy e => ?_⟩
  · have := List.all_eq_true.mp h4 y hy
    simp only [Bool.or_eq_true, decide_eq_true_eq] at this
    rcases this with h | h
    · exact absurd e h
    · exact h
  · have := List.all_eq_true.mp h5 y hy
    simp only [Bool.or_eq_true, Bool.and_eq_true, decide_eq_true_eq] at this
    rcases this with ⟨ha, hb⟩ | h
    · rcases e with e | e
      · exact absurd e ha
      · exact absurd e hb
    · exact h
end Vz
namespace Vz
open PySem
theorem bo_len : bootBuiltins "len" = some (.builtin "len") := by decide +kernel
theorem bo_all : bootBuiltins "all" = some (.builtin "all") := by decide +kernel
theorem bo_sorted : bootBuiltins "sorted" = some (.builtin "sorted") := by decide +kernel
theorem bo_list : bootBuiltins "list" = some (.type "list") := by decide +kernel
theorem bo_tuple : bootBuiltins "tuple" = some (.type "tuple") := by decide +kernel
theorem bo_dict : bootBuiltins "dict" = some (.type "dict") := by decide +kernel
end Vz
namespace Vz
open PySem L2
abbrev XQ := Str → XP → Hs → Prop
abbrev noX : XQ := fun _ _ _ => False
def R.wp {α : Type} (r : R α) (Q : α → Hs → Prop) (E : XQ) : Prop := match r with
  | .ok v G => Q v G
  | .exc c d G => E c d G
  | .stuck => False
structure SP where
  nx : En → Hs → Prop
  rt : AV → Hs → Prop
  bk : En → Hs → Prop
  ct : En → Hs → Prop
  ex : XQ
def SR.wp (r : SR) (D : SP) : Prop := match r with
  | .nx ρ G => D.nx ρ G
  | .rt v G => D.rt v G
  | .bk ρ G => D.bk ρ G
  | .ct ρ G => D.ct ρ G
  | .exc c d _ G => D.ex c d G
  | .stuck => False
section
variable {α β : Type} {Q Q' : α → Hs → Prop} {P : β → Hs → Prop} {E E' : XQ} {D : SP} {ρ : En} {G : Hs}
@[simp] theorem wp_ok (v : α) : (R.ok v G).wp Q E = Q v G := rfl
@[simp] theorem wp_exc (c : Str) (d : XP) : (R.exc c d G : R α).wp Q E = E c d G := rfl
@[simp] theorem wp_bind (r : R α) (k : α → Hs → R β) : (r.bind k).wp P E = r.wp (fun v G => (k v G).wp P E) E := by cases r <;> rfl
@[simp] theorem wp_toS (r : R α) (k : α → Hs → SR) : (r.toS ρ k).wp D = r.wp (fun v G => (k v G).wp D) D.ex := by cases r <;> rfl
theorem R.wp.mono {r : R α} (h : r.wp Q E) (hq : ∀ v G, Q v G → Q' v G) (he : ∀ c d G, E c d G → E' c d G) : r.wp Q' E' := by
  cases r with
  | ok v G => exact hq v G h
  | exc c d G => exact he c d G h
  | stuck => exact h
theorem R.wp.to {r : R α} (h : r.wp Q noX) (hq : ∀ v G, Q v G → Q' v G) : r.wp Q' E' := h.mono hq fun _ _ _ => False.elim
theorem R.wp.ex {r : R α} (h : r.wp Q noX) : ∃ v G, r = .ok v G ∧ Q v G := by
  cases r with
  | ok v G => exact ⟨v, G, rfl, h⟩
  | exc c d G => exact h.elim
  | stuck => exact h.elim
theorem wp_ite {c : Prop} [Decidable c] (a b : R α) : (if c then a else b).wp Q E = if c then a.wp Q E else b.wp Q E := by split <;> rfl
theorem swp_ite {c : Prop} [Decidable c] (a b : SR) : (if c then a else b).wp D = if c then a.wp D else b.wp D := by split <;> rfl
@[simp] theorem wp_guard {c : Prop} [Decidable c] (a : R α) : (if c then a else .stuck).wp Q E = (c ∧ a.wp Q E) := by
  by_cases h : c
  · rw [if_pos h]
    exact propext ⟨fun x => ⟨h, x⟩, fun x => x.2⟩
  · rw [if_neg h]
    exact propext ⟨fun x => x.elim, fun x => h x.1⟩
structure SP.le (D D' : SP) : Prop where
  nx : ∀ ρ G, D.nx ρ G → D'.nx ρ G
  rt : ∀ v G, D.rt v G → D'.rt v G
  bk : ∀ ρ G, D.bk ρ G → D'.bk ρ G
  ct : ∀ ρ G, D.ct ρ G → D'.ct ρ G
  ex : ∀ c d G, D.ex c d G → D'.ex c d G
theorem SR.wp.mono {r : SR} {D D' : SP} (h : r.wp D) (l : D.le D') : r.wp D' := by
  cases r with
  | nx ρ G => exact l.nx _ _ h
  | rt ρ G => exact l.rt _ _ h
  | bk ρ G => exact l.bk _ _ h
  | ct ρ G => exact l.ct _ _ h
  | exc c d ρ G => exact l.ex _ _ _ h
  | stuck => exact h
@[simp] theorem wp_seq (s1 s2 : MS) : (mSeq s1 s2 ρ G).wp D = (s1 ρ G).wp { D with nx := fun ρ G => (s2 ρ G).wp D } := by
  unfold mSeq
  cases s1 ρ G <;> rfl
@[simp] theorem wp_nx : (mNx ρ G).wp D = D.nx ρ G := rfl
@[simp] theorem wp_brk : (mBk ρ G).wp D = D.bk ρ G := rfl
@[simp] theorem wp_cont : (mCt ρ G).wp D = D.ct ρ G := rfl
@[simp] theorem wp_drop (m : ME) : (mDrop m ρ G).wp D = (m ρ G).wp (fun _ G => D.nx ρ G) D.ex := wp_toS _ _
@[simp] theorem wp_ret (m : ME) : (mRet m ρ G).wp D = (m ρ G).wp (fun v G => D.rt v G) D.ex := wp_toS _ _
@[simp] theorem wp_retN : (mRetN ρ G).wp D = D.rt .non G := rfl
@[simp] theorem wp_if (t : MB) (s1 s2 : MS) : (mIf t s1 s2 ρ G).wp D = (t ρ G).wp (fun k G => if k = true then (s1 ρ G).wp D else (s2 ρ G).wp D) D.ex := by
  unfold mIf
  rw [wp_toS]
  congr 1
  funext k G
  exact swp_ite _ _
@[simp] theorem wp_asg (m : ME) (i : Nat) : (mAsg m (gNm i) ρ G).wp D = (m ρ G).wp (fun v G => D.nx (ρ.set i (some v)) G) D.ex := wp_toS _ _
def MG.wp (r : R En) (D : SP) : Prop := match r with
  | .ok ρ G => D.nx ρ G
  | _ => False
@[simp] theorem wp_asgT (m : ME) (g : MG) : (mAsg m g ρ G).wp D = (m ρ G).wp (fun v G => MG.wp (g v ρ G) D) D.ex := by
  unfold mAsg
  rw [wp_toS]
  congr 1
  funext v G
  cases g v ρ G <;> rfl
@[simp] theorem wp_par (i j : Nat) (ms : MEs) : (mPar i j ms ρ G).wp D = (ms ρ G).wp (fun vs G => match vs with
  | [v, w] => D.nx ((ρ.set i (some v)).set j (some w)) G
  | _ => False) D.ex := by
  unfold mPar
  rw [wp_toS]
  congr 1
  funext vs G
  match vs with
  | [] => rfl
  | [_] => rfl
  | [_, _] => rfl
  | _ :: _ :: _ :: _ => rfl
@[simp] theorem wp_dput (mo mi mv : ME) : (mDput mo mi mv ρ G).wp D = (mv ρ G).wp (fun u G => (mo ρ G).wp (fun v G => (mi ρ G).wp (fun w G => (fDp v w u G).wp (fun _ G => D.nx ρ G) D.ex) D.ex) D.ex) D.ex := by
  unfold mDput
  simp only [wp_toS]
  rfl
@[simp] theorem wp_mFn {QV : AV → Hs → Prop} (n : Nat) (b : MS) (xs : List AV) : (mFn n b xs G).wp QV E = (b (startA n xs) G).wp ⟨fun _ G => QV .non G, QV, fun _ _ => False, fun _ _ => False, E⟩ := by
  unfold mFn
  cases b (startA n xs) G <;> rfl
section
variable {QV : AV → Hs → Prop} {QVs : List AV → Hs → Prop} {QB : Bool → Hs → Prop}
@[simp] theorem wp_var (i : Nat) : (mVar i ρ G).wp QV E = (match ρ[i]? with
  | some (some v) => QV v G
  | _ => False) := by
  unfold mVar
  cases ρ[i]? with
  | none => rfl
  | some o => cases o <;> rfl
@[simp] theorem wp_c (v : AV) : (mC v ρ G).wp QV E = QV v G := rfl
@[simp] theorem wp_m2 (f : AV → AV → Hs → R AV) (ma mb : ME) : (m2 f ma mb ρ G).wp QV E = (ma ρ G).wp (fun v G => (mb ρ G).wp (fun w G => (f v w G).wp QV E) E) E := by
  unfold m2
  simp only [wp_bind]
@[simp] theorem wp_m1 (f : AV → Hs → R AV) (ma : ME) : (m1 f ma ρ G).wp QV E = (ma ρ G).wp (fun v G => (f v G).wp QV E) E := by
  unfold m1
  simp only [wp_bind]
theorem wp_asB (r : R AV) : (asB r).wp QB E = r.wp (fun v G => match v with
  | .bl b => QB b G
  | _ => False) E := by
  cases r with
  | ok v G => cases v <;> rfl
  | _ => rfl
@[simp] theorem wp_test (m : ME) : (mTest m ρ G).wp QB E = (m ρ G).wp (fun v G => match v with
  | .bl b => QB b G
  | _ => False) E := wp_asB _
@[simp] theorem wp_tru (m : ME) : (mTru m ρ G).wp QB E = (m ρ G).wp (fun v G => match truB G v with
  | some b => QB b G
  | none => False) E := by
  unfold mTru asT
  cases m ρ G with
  | ok v G => simp only [R.wp]; cases truB G v <;> rfl
  | _ => rfl
@[simp] theorem wp_and (ta tb : MB) : (mAnd ta tb ρ G).wp QB E = (ta ρ G).wp (fun k G => if k = true then (tb ρ G).wp QB E else QB false G) E := by
  unfold mAnd
  rw [wp_bind]
  congr 1
  funext k G
  exact wp_ite _ _
@[simp] theorem wp_or (ta tb : MB) : (mOr ta tb ρ G).wp QB E = (ta ρ G).wp (fun k G => if k = true then QB true G else (tb ρ G).wp QB E) E := by
  unfold mOr
  rw [wp_bind]
  congr 1
  funext k G
  exact wp_ite _ _
@[simp] theorem wp_not (ta : MB) : (mNot ta ρ G).wp QB E = (ta ρ G).wp (fun k G => QB (!k) G) E := by
  unfold mNot
  rw [wp_bind]
  rfl
@[simp] theorem wp_andV (ma mb : ME) : (mAndV ma mb ρ G).wp QV E = (ma ρ G).wp (fun v G => match v with
  | .bl k => if k = true then (mb ρ G).wp QV E else QV (.bl false) G
  | _ => False) E := by
  unfold mAndV
  rw [wp_bind, wp_asB]
  congr 1
  funext v G
  cases v <;> first | rfl | exact wp_ite _ _
@[simp] theorem wp_orV (ma mb : ME) : (mOrV ma mb ρ G).wp QV E = (ma ρ G).wp (fun v G => match v with
  | .bl k => if k = true then QV (.bl true) G else (mb ρ G).wp QV E
  | _ => False) E := by
  unfold mOrV
  rw [wp_bind, wp_asB]
  congr 1
  funext v G
  cases v <;> first | rfl | exact wp_ite _ _
@[simp] theorem wp_notV (ma : ME) : (mNotV ma ρ G).wp QV E = (ma ρ G).wp (fun v G => match v with
  | .bl k => QV (.bl (!k)) G
  | _ => False) E := by
  unfold mNotV
  rw [wp_bind, wp_asB]
  rfl
theorem wp_iteE (tc : MB) (ma mb : ME) : (mIte tc ma mb ρ G).wp QV E = (tc ρ G).wp (fun k G => if k = true then (ma ρ G).wp QV E else (mb ρ G).wp QV E) E := by
  unfold mIte
  rw [wp_bind]
  congr 1
  funext k G
  exact wp_ite _ _
@[simp] theorem wp_chain (f g : AV → AV → Hs → R AV) (ma mb mc : ME) : (mChain f g ma mb mc ρ G).wp QV E = (ma ρ G).wp (fun v G => (mb ρ G).wp (fun w G => (f v w G).wp (fun z G => match z with
  | .bl k => if k = true then (mc ρ G).wp (fun u G => (g w u G).wp QV E) E else QV (.bl false) G
  | _ => False) E) E) E := by
  unfold mChain
  simp only [wp_bind, wp_asB]
  congr 1
  funext v G
  congr 1
  funext w G
  congr 1
  funext z G
  cases z <;> first | rfl | (simp only [wp_ite, wp_bind, wp_ok])
@[simp] theorem wp_nil : (mNil ρ G).wp QVs E = QVs [] G := rfl
@[simp] theorem wp_cons (m : ME) (ms : MEs) : (mCons m ms ρ G).wp QVs E = (m ρ G).wp (fun v G => (ms ρ G).wp (fun vs G => QVs (v :: vs) G) E) E := by
  unfold mCons
  simp only [wp_bind, wp_ok]
@[simp] theorem wp_tup (ms : MEs) : (mTup ms ρ G).wp QV E = (ms ρ G).wp (fun vs G => vs.length ≤ szl ∧ QV (.tup vs) G) E := by
  unfold mTup
  rw [wp_bind]
  congr 1
  funext vs G
  exact wp_guard _
@[simp] theorem wp_lst (ms : MEs) : (mLst ms ρ G).wp QV E = (ms ρ G).wp (fun vs G => vs.length ≤ szl ∧ QV (.ref G.length) (G ++ [.lst vs])) E := by
  unfold mLst
  rw [wp_bind]
  congr 1
  funext vs G
  exact wp_guard _
@[simp] theorem wp_blt (f : List AV → Hs → R AV) (ms : MEs) : (mBlt f ms ρ G).wp QV E = (ms ρ G).wp (fun vs G => (f vs G).wp QV E) E := wp_bind _ _
@[simp] theorem wp_bm (q : AV → Hs → Bool) (f : AV → List AV → Hs → R AV) (mo : ME) (ms : MEs) : (mBm q f mo ms ρ G).wp QV E = (mo ρ G).wp (fun v G => q v G = true ∧ (ms ρ G).wp (fun vs G => (f v vs G).wp QV E) E) E := by
  unfold mBm
  rw [wp_bind]
  congr 1
  funext v G
  rw [wp_guard, wp_bind]
@[simp] theorem wp_call (N n m : Nat) (gA : List AV → List AV → List AV) (F : List AV → Hs → R AV) (ms mk : MEs) : (mCall N n m gA F ms mk ρ G).wp QV E =
    (ms ρ G).wp (fun xs G => (mk ρ G).wp (fun ys G => (xs.length = n ∧ ys.length = m ∧ (gA xs ys).length = N) ∧ (F (gA xs ys) G).wp QV E) E) E := by
  unfold mCall
  simp only [wp_bind]
  congr 1
  funext xs G
  congr 1
  funext ys G
  exact wp_guard _
@[simp] theorem wp_sl (ma : ME) (ml mh : MO) : (mSl ma ml mh ρ G).wp QV E = (ma ρ G).wp (fun v G => (ml ρ G).wp (fun lo G => (mh ρ G).wp (fun hi G => (fSl v lo hi G).wp QV E) E) E) E := by
  unfold mSl
  simp only [wp_bind]
@[simp] theorem wp_oN {QO : Option Int → Hs → Prop} : (mNone ρ G).wp QO E = QO none G := rfl
@[simp] theorem wp_oS {QO : Option Int → Hs → Prop} (m : ME) : (mSome m ρ G).wp QO E = (m ρ G).wp (fun v G => match v with
  | .int i => QO (some i) G
  | _ => False) E := by
  unfold mSome
  rw [wp_bind]
  congr 1
  funext v G
  cases v <;> rfl
end
end
end Vz
namespace Vz
open PySem L2
theorem ofS_inj (a b : String) : (Str.ofString a = Str.ofString b) = (a = b) := by
  refine propext ⟨fun h => ?_, fun h => by rw [h]⟩
  rw [Str.ofString_eq_toList, Str.ofString_eq_toList] at h
  injection h with h
  have h2 : a.toList.map Char.toNat = b.toList.map Char.toNat := by
    have := congrArg Array.toList h
    exact this
  have h3 : a.toList = b.toList := by
    refine List.map_inj_right (f := Char.toNat) (fun x y e => ?_) |>.mp h2
    exact Char.ext (UInt32.toNat_inj.mp e)
  exact String.toList_inj.mp h3
/-- the objects from b on stand as they stood -/
structure Kp (b : Nat) (G G' : Hs) : Prop where
  le : G.length ≤ G'.length
  at_ : ∀ n, b ≤ n → n < G.length → G'[n]? = G[n]?
theorem Kp.refl (b : Nat) (G : Hs) : Kp b G G := ⟨Nat.le_refl _, fun _ _ _ => rfl⟩
theorem Kp.trans {b : Nat} {G G1 G2 : Hs} (h : Kp b G G1) (k : Kp b G1 G2) : Kp b G G2 :=
  ⟨Nat.le_trans h.le k.le, fun n hb hn => (k.at_ n hb (Nat.lt_of_lt_of_le hn h.le)).trans (h.at_ n hb hn)⟩
theorem Kp.mono {b c : Nat} {G G1 : Hs} (h : Kp b G G1) (l : b ≤ c) : Kp c G G1 := ⟨h.le, fun n hb hn => h.at_ n (Nat.le_trans l hb) hn⟩
theorem Kp.app (b : Nat) (G G1 : Hs) : Kp b G (G ++ G1) := ⟨by simp, fun n _ hn => List.getElem?_append_left hn⟩
theorem Kp.set (G : Hs) {n b : Nat} (o : AO) (h : n < b) : Kp b G (G.set n o) := ⟨by simp, fun m hb hn => List.getElem?_set_ne (by omega)⟩
theorem Kp.get {b : Nat} {G G1 : Hs} (h : Kp b G G1) {n : Nat} {o : AO} (hb : b ≤ n) (e : G[n]? = some o) : G1[n]? = some o :=
  (h.at_ n hb (List.getElem?_eq_some_iff.mp e).1).trans e
def zAV (xs : List Int) : List AV := xs.map AV.int
theorem zAV_get (xs : List Int) (i : Nat) : (zAV xs)[i]? = xs[i]?.map AV.int := List.getElem?_map
theorem zAV_len (xs : List Int) : (zAV xs).length = xs.length := List.length_map ..
def drK (gl cl : Nat) (rest turn seed : Int) : List (Key × AV) :=
  [(.inr "great", .ref gl), (.inr "rest", .int rest), (.inr "turn", .int turn), (.inr "seed", .int seed), (.inr "cells", .ref cl)]
structure DrS (b t s : Nat) (G : Hs) (gl cl : Nat) (gs cells : List Int) (rest turn seed : Int) : Prop where
  sb : s < b
  glb : gl < b
  clb : cl < b
  sg : s ≠ gl
  sc : s ≠ cl
  gc : gl ≠ cl
  bl : b ≤ G.length
  at_s : G[s]? = some (.dk (drK gl cl rest turn seed))
  at_g : G[gl]? = some (.lst (zAV gs))
  at_c : G[cl]? = some (.lst (zAV cells))
  g0 : ∀ g ∈ gs, 0 ≤ g
  ne : cells ≠ []
  cb : ∀ c ∈ cells, 0 ≤ c ∧ c < 2147483629
  r0 : 0 ≤ rest
  t0 : 0 ≤ turn
  tt : turn ≤ t
  s0 : 0 ≤ seed
  s1 : seed < 2147483647
def Dr (b t s : Nat) (G : Hs) : Prop := ∃ gl cl gs cells rest turn seed, DrS b t s G gl cl gs cells rest turn seed
theorem DrS.kp {b t s : Nat} {G G' : Hs} {gl cl : Nat} {gs cells : List Int} {rest turn seed : Int} (h : DrS b t s G gl cl gs cells rest turn seed) (k : G.length ≤ G'.length) (e : ∀ n, n < b → G'[n]? = G[n]?) : DrS b t s G' gl cl gs cells rest turn seed :=
  ⟨h.sb, h.glb, h.clb, h.sg, h.sc, h.gc, Nat.le_trans h.bl k, (e _ h.sb).trans h.at_s, (e _ h.glb).trans h.at_g, (e _ h.clb).trans h.at_c, h.g0, h.ne, h.cb, h.r0, h.t0, h.tt, h.s0, h.s1⟩
theorem Dr.kp {b t s : Nat} {G G' : Hs} (h : Dr b t s G) (k : Kp 0 G G') : Dr b t s G' := by
  obtain ⟨gl, cl, gs, cells, rest, turn, seed, h⟩ := h
  exact ⟨gl, cl, gs, cells, rest, turn, seed, h.kp k.le fun n hn => k.at_ n (Nat.zero_le _) (Nat.lt_of_lt_of_le hn h.bl)⟩
theorem Dr.mono {b t t' s : Nat} {G : Hs} (h : Dr b t s G) (l : t ≤ t') : Dr b t' s G := by
  obtain ⟨gl, cl, gs, cells, rest, turn, seed, h⟩ := h
  exact ⟨gl, cl, gs, cells, rest, turn, seed, { h with tt := by have := h.tt; omega }⟩
theorem Dr.bl {b t s : Nat} {G : Hs} (h : Dr b t s G) : b ≤ G.length := let ⟨_, _, _, _, _, _, _, h⟩ := h; DrS.bl h
theorem log2_le {n k : Nat} (h : n < 2 ^ k) : n.log2 ≤ k := by
  by_cases h0 : n = 0
  · subst h0; simp
  · exact Nat.le_of_lt ((Nat.log2_lt h0).mpr h)
section
variable {gl cl : Nat} {rest turn seed v : Int}
theorem drK_great : getA (drK gl cl rest turn seed) (.inr "great") = some (.ref gl) := by simp [drK, getA, ofS_inj]
theorem drK_rest : getA (drK gl cl rest turn seed) (.inr "rest") = some (.int rest) := by simp [drK, getA, ofS_inj]
theorem drK_turn : getA (drK gl cl rest turn seed) (.inr "turn") = some (.int turn) := by simp [drK, getA, ofS_inj]
theorem drK_seed : getA (drK gl cl rest turn seed) (.inr "seed") = some (.int seed) := by simp [drK, getA, ofS_inj]
theorem drK_cells : getA (drK gl cl rest turn seed) (.inr "cells") = some (.ref cl) := by simp [drK, getA, ofS_inj]
theorem drK_prest : putA (drK gl cl rest turn seed) (.inr "rest") (.int v) = drK gl cl v turn seed := by simp [drK, putA, ofS_inj]
theorem drK_pturn : putA (drK gl cl rest turn seed) (.inr "turn") (.int v) = drK gl cl rest v seed := by simp [drK, putA, ofS_inj]
theorem drK_pseed : putA (drK gl cl rest turn seed) (.inr "seed") (.int v) = drK gl cl rest turn v := by simp [drK, putA, ofS_inj]
theorem drK_len : (drK gl cl rest turn seed).length < szl := by
  show 5 < szl
  decide
end
end Vz
namespace Vz
open PySem L2
theorem allS_map {α β : Type} {f : α → Option β} {g : α → β} : ∀ {xs : List α}, (∀ x ∈ xs, f x = some (g x)) → allS (xs.map f) = some (xs.map g)
  | [], _ => rfl
  | x :: xs, h => by
    rw [List.map_cons, List.map_cons, h x (List.mem_cons_self ..)]
    simp only [allS]
    rw [allS_map fun y hy => h y (List.mem_cons_of_mem _ hy)]
theorem datZ {n : Nat} {G : Hs} {gs : List Int} : allS ((zAV gs).map (dat (n + 1) G)) = some (gs.map PyData.int) := by
  unfold zAV
  rw [List.map_map]
  exact allS_map fun x _ => rfl
theorem canLayZ : ∀ gs : List Int, PyData.canLayAll0 (gs.map PyData.int) = true
  | [] => rfl
  | g :: gs => by
    rw [List.map_cons, PyData.canLayAll0, canLayZ gs]
    rfl
theorem depthZ : ∀ gs : List Int, PyData.depthAll (gs.map PyData.int) ≤ 1
  | [] => by simp [PyData.depthAll]
  | g :: gs => by
    have := depthZ gs
    rw [List.map_cons, PyData.depthAll]
    have h : PyData.depth (.int g) ≤ 1 := by simp [PyData.depth]
    omega
theorem shapedZ (gs : List Int) : SeqAt.shaped (.list (gs.map PyData.int)) = true := by
  unfold SeqAt.shaped
  have h1 := canLayZ gs
  have h2 := depthZ gs
  rw [PyData.canLay0, h1, PyData.depth]
  simp
  omega
theorem dat_lst {G : Hs} {n k : Nat} {xs : List AV} {ds : List PyData} (h : G[n]? = some (.lst xs)) (e : allS (xs.map (dat k G)) = some ds) : dat (k + 1) G (.ref n) = some (.list ds) := by
  show (match G[n]? with
    | some (.lst xs) => (match allS (xs.map (dat k G)) with
      | some ds => some (.list ds)
      | none => none)
    | _ => none : Option PyData) = _
  rw [h]
  show (match allS (xs.map (dat k G)) with
      | some ds => some (.list ds)
      | none => none : Option PyData) = _
  rw [e]
theorem ne_nil {G : Hs} {n m : Nat} {gs : List Int} (h : G[n]? = some (.lst (zAV gs))) (h' : G[m]? = some (.lst [])) : fNe (.ref n) (.ref m) G = .ok (.bl (!gs.isEmpty)) G := by
  have e1 : dat 12 G (.ref n) = some (.list (gs.map PyData.int)) := dat_lst h datZ
  have e2 : dat 12 G (.ref m) = some (.list (([] : List Int).map PyData.int)) := dat_lst h' rfl
  have e3 : PyData.eqv (.list (gs.map PyData.int)) (.list (([] : List Int).map PyData.int)) = gs.isEmpty := by
    cases gs <;> rfl
  have e4 : eqB G (.ref n) (.ref m) = some gs.isEmpty := by
    show eqF G (.ref n) (.ref m) = _
    unfold eqF
    rw [e1, e2]
    show (if _ then some _ else none) = _
    rw [if_pos ⟨shapedZ _, shapedZ _⟩, e3]
  unfold fNe
  rw [e4]
end Vz
namespace Vz
open PySem L2
section
variable {QV : AV → Hs → Prop} {E : XQ} {G : Hs} {i j : Int}
theorem wp_addI : (fAdd (.int i) (.int j) G).wp QV E = QV (.int (i + j)) G := rfl
theorem wp_mulI : (fMul (.int i) (.int j) G).wp QV E = (i.natAbs.log2 + j.natAbs.log2 < 1000000 ∧ QV (.int (i * j)) G) := wp_guard _
theorem wp_I2 {f : Int → Int → Option Int} {c : Prop} [Decidable c] {k : Int} (h : f i j = if c then some k else none) : (fI2 f (.int i) (.int j) G).wp QV E = (c ∧ QV (.int k) G) := by
  show (match f i j with
    | some k => R.ok (.int k) G
    | none => .stuck : R AV).wp QV E = _
  rw [h]
  by_cases hc : c
  · rw [if_pos hc]
    exact propext ⟨fun x => ⟨hc, x⟩, fun x => x.2⟩
  · rw [if_neg hc]
    exact propext ⟨fun x => x.elim, fun x => hc x.1⟩
theorem wp_modI : (fMod (.int i) (.int j) G).wp QV E = (0 < j ∧ QV (.int (i % j)) G) := wp_I2 rfl
theorem wp_divI : (fDiv (.int i) (.int j) G).wp QV E = ((0 < j ∧ j.natAbs.log2 < 9000) ∧ QV (.int (i / j)) G) := wp_I2 rfl
theorem wp_powI : (fPow (.int i) (.int j) G).wp QV E = ((0 ≤ j ∧ j ≤ 1000000 ∧ i.natAbs < 2 ^ 64) ∧ QV (.int (i ^ j.toNat)) G) := wp_I2 rfl
theorem log2_b {i : Int} {k : Nat} (h : i.natAbs < 2 ^ k) : i.natAbs.log2 ≤ k := log2_le h
theorem mul_room {i j : Int} (h : i.natAbs < 2 ^ 250) (h' : j.natAbs < 2 ^ 250) : i.natAbs.log2 + j.natAbs.log2 < 1000000 := by
  have := log2_b h
  have := log2_b h'
  omega
theorem atI_in {α : Type} {xs : List α} {i : Int} (h0 : 0 ≤ i) (h1 : i < xs.length) : atI xs i = xs[i.toNat]? := by
  have e : ixN xs.length i = some i.toNat := by
    unfold ixN
    rw [if_pos h0, if_pos (by omega)]
  unfold atI
  rw [e]
  rfl
/-- an item of a list -/
theorem wp_ixL {n : Nat} {xs : List AV} {w : AV} (h : G[n]? = some (.lst xs)) (h0 : 0 ≤ i) (h1 : i < xs.length) (e : xs[i.toNat]? = some w) : (fIx (.ref n) (.int i) G).wp QV E = QV w G := by
  have e1 : seqOf G (.ref n) = some xs := by
    unfold seqOf
    simp only [tupOf, lstOf, h]
  simp only [fIx, e1, atI_in h0 h1, e, wp_ok]
end
end Vz
namespace Vz
open PySem L2
def b_take3 : MS := (mSeq (mAsg (m2 fDg (mVar 0) (mC (.str "turn"))) (gNm 3))
  (mSeq (mDput (mVar 0) (mC (.str "turn")) (m2 fAdd (mVar 3) (mC (.int 1))))
  (mSeq (mAsg (m2 fIx (m2 fDg (mVar 0) (mC (.str "cells"))) (m2 fMod (mVar 3) (mBlt fLen (mCons (m2 fDg (mVar 0) (mC (.str "cells"))) mNil)))) (gNm 4))
  (mSeq (mAsg (m2 fMod (m2 fAdd (m2 fAdd (m2 fMul (m2 fDg (mVar 0) (mC (.str "seed"))) (mC (.int 48271))) (m2 fMul (mVar 4) (m2 fAdd (m2 fMul (mC (.int 2)) (mVar 3)) (mC (.int 3))))) (m2 fPow (mVar 3) (mC (.int 3)))) (mC (.int 2147483647))) (gNm 5))
  (mSeq (mDput (mVar 0) (mC (.str "seed")) (mVar 5))
  (mSeq (mAsg (m2 fAdd (m2 fMul (m2 fMod (m2 fPow (mVar 5) (mC (.int 2))) (mC (.int 2147483629))) (mC (.int 2147483587))) (m2 fMod (m2 fPow (mVar 5) (mC (.int 3))) (mC (.int 2147483579)))) (gNm 6))
  (mRet (m2 fMod (m2 fDiv (mVar 6) (mC (.int 7))) (mVar 1)))))))))
def b_take2 : MS := (mSeq (mIf (mTest (m2 fGt (m2 fDg (mVar 0) (mC (.str "rest"))) (mC (.int 0)))) (mSeq (mAsg (m2 fMod (m2 fDg (mVar 0) (mC (.str "rest"))) (mVar 1)) (gNm 2))
  (mSeq (mDput (mVar 0) (mC (.str "rest")) (m2 fDiv (m2 fDg (mVar 0) (mC (.str "rest"))) (mVar 1)))
  (mRet (mVar 2)))) mNx) b_take3)
def b_take : MS := (mSeq (mIf (mAnd (mTest (m2 fEq (m2 fDg (mVar 0) (mC (.str "rest"))) (mC (.int 0)))) (mTest (m2 fNe (m2 fDg (mVar 0) (mC (.str "great"))) (mLst mNil)))) (mDput (mVar 0) (mC (.str "rest")) (mBm isL fPopAt (m2 fDg (mVar 0) (mC (.str "great"))) (mCons (mC (.int 0)) mNil))) mNx) b_take2)
def f_take : List AV → Hs → R AV := mFn 7 b_take
section
variable {b t s : Nat} {G : Hs} {QV : AV → Hs → Prop} {E : XQ}
theorem wp_dgS {k : Str} {n : Nat} {kvs : List (Key × AV)} {u : AV} (h : G[n]? = some (.dk kvs)) (e : getA kvs (.inr k) = some u) : (fDg (.ref n) (.str k) G).wp QV E = QV u G := by
  simp only [fDg, dkR, h, kOf, e, wp_ok]
theorem wp_dpS {k : Str} {n : Nat} {kvs kvs' : List (Key × AV)} {u : AV} {QU : Unit → Hs → Prop} (h : G[n]? = some (.dk kvs)) (hl : kvs.length < szl) (e : putA kvs (.inr k) u = kvs') : (fDp (.ref n) (.str k) u G).wp QU E = QU () (G.set n (.dk kvs')) := by
  simp only [fDp, dkOf, h, kOf, e, hl, if_true, wp_ok]
theorem mod_b {a m : Int} (hm : 0 < m) : 0 ≤ a % m ∧ a % m < m := ⟨Int.emod_nonneg _ (by omega), Int.emod_lt_of_pos _ hm⟩
/-- the state with another rest, turn or seed -/
theorem DrS.put {gl cl : Nat} {gs cells : List Int} {rest turn seed rest' turn' seed' : Int} {t' : Nat} (h : DrS b t s G gl cl gs cells rest turn seed) (hr : 0 ≤ rest') (h0 : 0 ≤ turn') (h1 : turn' ≤ t') (h2 : 0 ≤ seed') (h3 : seed' < 2147483647) :
    DrS b t' s (G.set s (.dk (drK gl cl rest' turn' seed'))) gl cl gs cells rest' turn' seed' :=
  have hs : s < G.length := Nat.lt_of_lt_of_le h.sb h.bl
  ⟨h.sb, h.glb, h.clb, h.sg, h.sc, h.gc, by rw [List.length_set]; exact h.bl, by rw [List.getElem?_set_self hs], by rw [List.getElem?_set_ne h.sg]; exact h.at_g, by rw [List.getElem?_set_ne h.sc]; exact h.at_c, h.g0, h.ne, h.cb, hr, h0, h1, h2, h3⟩
theorem DrS.gset {gl cl : Nat} {gs gs' cells : List Int} {rest turn seed : Int} (h : DrS b t s G gl cl gs cells rest turn seed) (hg : ∀ g ∈ gs', 0 ≤ g) : DrS b t s (G.set gl (.lst (zAV gs'))) gl cl gs' cells rest turn seed :=
  have hs : gl < G.length := Nat.lt_of_lt_of_le h.glb h.bl
  ⟨h.sb, h.glb, h.clb, h.sg, h.sc, h.gc, by rw [List.length_set]; exact h.bl, by rw [List.getElem?_set_ne fun e => h.sg e.symm]; exact h.at_s, by rw [List.getElem?_set_self hs], by rw [List.getElem?_set_ne h.gc]; exact h.at_c, hg, h.ne, h.cb, h.r0, h.t0, h.tt, h.s0, h.s1⟩
theorem DrS.app {gl cl : Nat} {gs cells : List Int} {rest turn seed : Int} (h : DrS b t s G gl cl gs cells rest turn seed) (o : List AO) : DrS b t s (G ++ o) gl cl gs cells rest turn seed :=
  h.kp (by simp) fun n hn => List.getElem?_append_left (Nat.lt_of_lt_of_le hn h.bl)
/-- the rest of it: no great number is left -/
theorem take_ok3 {m : Int} {gl cl : Nat} {gs cells : List Int} {rest turn seed : Int} {D : SP} {G0 : Hs} (h : DrS b t s G gl cl gs cells rest turn seed) (hm : 0 < m) (hm2 : m < 2 ^ 64) (ht : t < 2 ^ 60) (k0 : Kp b G0 G)
    (hD : ∀ (r : Int) G', 0 ≤ r → r < m → Dr b (t + 1) s G' → Kp b G0 G' → D.rt (.int r) G') :
    (b_take3 [some (.ref s), some (.int m), none, none, none, none, none] G).wp D := by
  have hs : s < G.length := Nat.lt_of_lt_of_le h.sb h.bl
  have hc : cl < G.length := Nat.lt_of_lt_of_le h.clb h.bl
  have t0 := h.t0; have tt := h.tt; have s0 := h.s0; have s1 := h.s1
  unfold b_take3
  rw [wp_seq, wp_asg]
  simp only [wp_m2, wp_var, wp_c, List.getElem?_cons_zero, List.getElem?_cons_succ, wp_dgS h.at_s drK_turn, List.set_cons_zero, List.set_cons_succ]
  rw [wp_seq, wp_dput]
  simp only [wp_m2, wp_var, wp_c, List.getElem?_cons_zero, List.getElem?_cons_succ, fAdd, wp_ok, wp_dpS h.at_s drK_len drK_pturn]
  have h2 := h.put (t' := t + 1) h.r0 (turn' := turn + 1) (by omega) (by omega) h.s0 h.s1
  have k2 : Kp b G0 (G.set s (.dk (drK gl cl rest (turn + 1) seed))) := k0.trans (Kp.set _ _ h.sb)
  generalize G.set s (.dk (drK gl cl rest (turn + 1) seed)) = G2 at h2 k2 ⊢
  rw [wp_seq, wp_asg]
  simp only [wp_m2, wp_var, wp_c, List.getElem?_cons_zero, List.getElem?_cons_succ, wp_dgS h2.at_s drK_cells, List.set_cons_zero, List.set_cons_succ, wp_blt, wp_cons, wp_nil, fLen, h2.at_c, wp_ok]
  have hlen : 0 < (zAV cells).length := by
    unfold zAV
    rw [List.length_map]
    exact List.length_pos_iff.mpr h.ne
  have hm4 := @mod_b turn (zAV cells).length (by omega)
  obtain ⟨cell, hcell, hcv⟩ : ∃ c : Int, (zAV cells)[(turn % ((zAV cells).length : Int)).toNat]? = some (.int c) ∧ 0 ≤ c ∧ c < 2147483629 := by
    have hi : (turn % ((zAV cells).length : Int)).toNat < cells.length := by
      have e : (zAV cells).length = cells.length := List.length_map ..
      omega
    refine ⟨cells[(turn % ((zAV cells).length : Int)).toNat], ?_, h.cb _ (List.getElem_mem hi)⟩
    rw [zAV_get, List.getElem?_eq_getElem hi]
    rfl
  simp only [wp_modI, wp_ixL h2.at_c hm4.1 hm4.2 hcell]
  refine ⟨by omega, ?_⟩
  have hp : (turn ^ Int.toNat 3).natAbs < 2 ^ 250 := by
    have e : turn ^ Int.toNat 3 = turn ^ 3 := rfl
    have h3 : turn.natAbs < 2 ^ 61 := by omega
    have h4 : turn.natAbs ^ 3 < (2 ^ 61) ^ 3 := Nat.pow_lt_pow_left h3 (by decide)
    rw [e, Int.natAbs_pow]
    exact Nat.lt_of_lt_of_le h4 (by decide)
  rw [wp_seq, wp_asg]
  simp only [wp_m2, wp_var, wp_c, List.getElem?_cons_zero, List.getElem?_cons_succ, wp_dgS h2.at_s drK_seed, List.set_cons_zero, List.set_cons_succ, wp_mulI, wp_addI, wp_powI, wp_modI]
  refine ⟨mul_room (by omega) (by omega), mul_room (by omega) (by omega), mul_room (by omega) (by omega), by omega, by omega, ?_⟩
  have hs' := @mod_b (seed * 48271 + cell * (2 * turn + 3) + turn ^ Int.toNat 3) 2147483647 (by omega)
  generalize (seed * 48271 + cell * (2 * turn + 3) + turn ^ Int.toNat 3) % 2147483647 = seed' at hs' ⊢
  rw [wp_seq, wp_dput]
  simp only [wp_m2, wp_var, wp_c, List.getElem?_cons_zero, List.getElem?_cons_succ, wp_dpS h2.at_s drK_len drK_pseed]
  have h3 := h2.put (t' := t + 1) h2.r0 h2.t0 h2.tt hs'.1 hs'.2
  have k3 : Kp b G0 (G2.set s (.dk (drK gl cl rest (turn + 1) seed'))) := k2.trans (Kp.set _ _ h.sb)
  generalize G2.set s (.dk (drK gl cl rest (turn + 1) seed')) = G3 at h3 k3 ⊢
  rw [wp_seq, wp_asg]
  simp only [wp_m2, wp_var, wp_c, List.getElem?_cons_zero, List.getElem?_cons_succ, List.set_cons_zero, List.set_cons_succ, wp_mulI, wp_addI, wp_powI, wp_modI, wp_ret, wp_divI]
  have m1 := @mod_b (seed' ^ Int.toNat 2) 2147483629 (by omega)
  refine ⟨by omega, by omega, mul_room (by omega) (by omega), by omega, by omega, ⟨by omega, ?_⟩, hm, ?_⟩
  · exact Nat.lt_of_le_of_lt (log2_b (k := 3) (by decide)) (by decide)
  · have hm5 := @mod_b ((seed' ^ Int.toNat 2 % 2147483629 * 2147483587 + seed' ^ Int.toNat 3 % 2147483579) / 7) m hm
    exact hD _ _ hm5.1 hm5.2 ⟨_, _, _, _, _, _, _, h3⟩ k3
theorem take_ok2 {m : Int} {gl cl : Nat} {gs cells : List Int} {rest turn seed : Int} {D : SP} {G0 : Hs} (h : DrS b t s G gl cl gs cells rest turn seed) (hm : 0 < m) (hm2 : m < 2 ^ 64) (ht : t < 2 ^ 60) (k0 : Kp b G0 G)
    (hD : ∀ (r : Int) G', 0 ≤ r → r < m → Dr b (t + 1) s G' → Kp b G0 G' → D.rt (.int r) G') :
    (b_take2 [some (.ref s), some (.int m), none, none, none, none, none] G).wp D := by
  unfold b_take2
  rw [wp_seq, wp_if]
  simp only [wp_test, wp_m2, wp_var, wp_c, List.getElem?_cons_zero, List.getElem?_cons_succ, wp_dgS h.at_s drK_rest, fGt, fCmpI, wp_ok, decide_eq_true_eq]
  by_cases hr : 0 < rest
  · rw [if_pos hr, wp_seq, wp_asg]
    simp only [wp_m2, wp_var, wp_c, List.getElem?_cons_zero, List.getElem?_cons_succ, wp_dgS h.at_s drK_rest, fMod, fI2, if_pos hm, wp_ok, List.set_cons_zero, List.set_cons_succ]
    rw [wp_seq, wp_dput]
    have hl : m.natAbs.log2 < 9000 := by
      have := log2_le (n := m.natAbs) (k := 64) (by omega)
      omega
    simp only [wp_m2, wp_var, wp_c, List.getElem?_cons_zero, List.getElem?_cons_succ, wp_dgS h.at_s drK_rest, fDiv, fI2, if_pos (And.intro hm hl), wp_ok, wp_dpS h.at_s drK_len drK_prest, wp_ret]
    have hm3 := @mod_b rest m hm
    refine hD _ _ hm3.1 hm3.2 ⟨_, _, _, _, _, _, _, h.put (Int.ediv_nonneg h.r0 (by omega)) h.t0 ?_ h.s0 h.s1⟩ (k0.trans (Kp.set _ _ h.sb))
    have := h.tt
    omega
  · rw [if_neg hr]
    exact take_ok3 h hm hm2 ht k0 hD
theorem take_ok {m : Int} (h : Dr b t s G) (hm : 0 < m) (hm2 : m < 2 ^ 64) (ht : t < 2 ^ 60) {D : SP}
    (hD : ∀ (r : Int) G', 0 ≤ r → r < m → Dr b (t + 1) s G' → Kp b G G' → D.rt (.int r) G') : (b_take [some (.ref s), some (.int m), none, none, none, none, none] G).wp D := by
  obtain ⟨gl, cl, gs, cells, rest, turn, seed, h⟩ := h
  have hs : s < G.length := Nat.lt_of_lt_of_le h.sb h.bl
  have hgl : gl < G.length := Nat.lt_of_lt_of_le h.glb h.bl
  show (mSeq _ b_take2 _ G).wp D
  rw [wp_seq, wp_if, wp_and]
  simp only [wp_test, wp_m2, wp_var, wp_c, List.getElem?_cons_zero, List.getElem?_cons_succ, wp_dgS h.at_s drK_rest, fEq, eqB, wp_ok, decide_eq_true_eq]
  by_cases hr : rest = 0
  · rw [if_pos hr]
    have e2 : (G ++ [AO.lst []])[gl]? = some (.lst (zAV gs)) := (List.getElem?_append_left hgl).trans h.at_g
    have e3 : (G ++ [AO.lst []])[G.length]? = some (.lst []) := by simp
    have h2 := h.app [AO.lst []]
    have k2 : Kp b G (G ++ [AO.lst []]) := Kp.app _ _ _
    have hgl2 : gl < (G ++ [AO.lst []]).length := by simp; omega
    simp only [wp_dgS h.at_s drK_great, wp_lst, wp_nil, List.length_nil, Nat.zero_le, true_and, ne_nil e2 e3, wp_ok]
    generalize G ++ [AO.lst []] = G2 at h2 k2 e2 hgl2 ⊢
    cases gs with
    | nil => exact take_ok2 h2 hm hm2 ht k2 hD
    | cons g gs =>
      rw [if_pos (by rfl), wp_dput]
      have e4 : seqIndex? 0 (zAV (g :: gs)).length = some 0 := by
        simp [seqIndex?, zAV]
      simp only [wp_bm, wp_m2, wp_var, wp_c, List.getElem?_cons_zero, List.getElem?_cons_succ, wp_dgS h2.at_s drK_great, wp_cons, wp_nil, isL, lstOf, h2.at_g, Option.isSome_some, true_and, fPopAt, e4, wp_guard]
      refine ⟨by decide, ?_⟩
      show ((fDp (.ref s) (.str "rest") (.int g) _).wp _ _ : Prop)
      have h3 : DrS b t s (G2.set gl (.lst (zAV gs))) gl cl gs cells rest turn seed := h2.gset fun x hx => h.g0 x (List.mem_cons_of_mem _ hx)
      have k3 : Kp b G (G2.set gl (.lst (zAV gs))) := k2.trans (Kp.set _ _ h.glb)
      show ((fDp (.ref s) (.str "rest") (.int g) (G2.set gl (.lst (zAV gs)))).wp _ _ : Prop)
      rw [wp_dpS h3.at_s drK_len drK_prest]
      exact take_ok2 (h3.put (h.g0 g (List.mem_cons_self ..)) h.t0 h.tt h.s0 h.s1) hm hm2 ht (k3.trans (Kp.set _ _ h.sb)) hD
  · rw [if_neg hr]
    exact take_ok2 h hm hm2 ht (Kp.refl _ _) hD
end
end Vz
namespace Vz
open PySem L2
section
variable {QV : AV → Hs → Prop} {E : XQ} {G : Hs} {ρ : En} {D : SP}
@[simp] theorem g_nm (i : Nat) (v : AV) : gNm i v ρ G = .ok (ρ.set i (some v)) G := rfl
/-- a walk with what holds ahead of each turn -/
theorem wp_forF {gd : Option (Nat × List AV)} {g : MG} {b : MS} (I : Nat → En → Hs → Prop) : ∀ (vs : List AV) (i : Nat) (ρ : En) (G : Hs), I i ρ G →
    (∀ j ρ G, i ≤ j → j ≤ i + vs.length → I j ρ G → gdOk gd G) →
    (∀ j v ρ G, vs[j]? = some v → I (i + j) ρ G → MG.wp (g v ρ G) { D with nx := fun ρ1 G1 => (b ρ1 G1).wp { nx := I (i + j + 1), rt := D.rt, bk := D.nx, ct := I (i + j + 1), ex := D.ex } }) →
    (∀ ρ G, I (i + vs.length) ρ G → D.nx ρ G) → (forF gd g b vs ρ G).wp D
  | [], i, ρ, G, h, hg, hs, he => by
    simp only [forF]
    rw [if_pos (hg i ρ G (Nat.le_refl _) (Nat.le_add_right ..) h)]
    exact he ρ G h
  | v :: vs, i, ρ, G, h, hg, hs, he => by
    simp only [forF]
    rw [if_pos (hg i ρ G (Nat.le_refl _) (Nat.le_add_right ..) h)]
    have h1 := hs 0 v ρ G rfl h
    have next : ∀ ρ2 G2, I (i + 1) ρ2 G2 → (forF gd g b vs ρ2 G2).wp D := fun ρ2 G2 h2 =>
      wp_forF I vs (i + 1) ρ2 G2 h2 (fun j ρ G l1 l2 => hg j ρ G (by omega) (by rw [List.length_cons]; omega)) (fun j v ρ G e hI => by
        have := hs (j + 1) v ρ G e (by rw [show i + (j + 1) = i + 1 + j by omega]; exact hI)
        rw [show i + (j + 1) = i + 1 + j by omega] at this
        exact this) (fun ρ G hI => he ρ G (by rw [List.length_cons, show i + (vs.length + 1) = i + 1 + vs.length by omega]; exact hI))
    cases e1 : g v ρ G with
    | stuck => rw [e1] at h1; exact h1.elim
    | exc c d G' => rw [e1] at h1; exact h1.elim
    | ok ρ1 G1 =>
      rw [e1] at h1
      have h1 : (b ρ1 G1).wp { nx := I (i + 1), rt := D.rt, bk := D.nx, ct := I (i + 1), ex := D.ex } := h1
      show (match b ρ1 G1 with
        | .nx ρ2 G2 => forF gd g b vs ρ2 G2
        | .ct ρ2 G2 => forF gd g b vs ρ2 G2
        | .bk ρ2 G2 => .nx ρ2 G2
        | r => r : SR).wp D
      cases e2 : b ρ1 G1 with
      | nx ρ2 G2 => rw [e2] at h1; exact next ρ2 G2 h1
      | ct ρ2 G2 => rw [e2] at h1; exact next ρ2 G2 h1
      | bk ρ2 G2 => rw [e2] at h1; exact h1
      | rt v G2 => rw [e2] at h1; exact h1
      | exc c d ρ2 G2 => rw [e2] at h1; exact h1
      | stuck => rw [e2] at h1; exact h1
theorem wp_for {mi : MI} {g : MG} {b : MS} (I : Nat → En → Hs → Prop) (h : (mi ρ G).wp (fun k G1 => I 0 ρ G1 ∧ (∀ j ρ G, j ≤ k.1.length → I j ρ G → gdOk k.2 G) ∧
      (∀ j v ρ G, k.1[j]? = some v → I j ρ G → MG.wp (g v ρ G) { D with nx := fun ρ1 G1 => (b ρ1 G1).wp { nx := I (j + 1), rt := D.rt, bk := D.nx, ct := I (j + 1), ex := D.ex } }) ∧
      ∀ ρ G, I k.1.length ρ G → D.nx ρ G) D.ex) : (mFor mi g b ρ G).wp D := by
  unfold mFor
  rw [wp_toS]
  refine h.mono (fun k G1 ⟨h0, hg, hs, he⟩ => ?_) fun _ _ _ x => x
  refine wp_forF I k.1 0 ρ G1 h0 (fun j ρ G _ l h => hg j ρ G (by omega) h) (fun j v ρ G e h => ?_) fun ρ G h => he ρ G (by rw [Nat.zero_add] at h; exact h)
  have := hs j v ρ G e (by rw [Nat.zero_add] at h; exact h)
  rw [Nat.zero_add]
  exact this
@[simp] theorem wp_wk {QW : Wk → Hs → Prop} (m : ME) : (mWk m ρ G).wp QW E = (m ρ G).wp (fun v G => match wkOf G v with
  | some k => QW k G
  | none => False) E := by
  unfold mWk
  rw [wp_bind]
  congr 1
  funext v G
  cases wkOf G v <;> rfl
@[simp] theorem wp_rg1 {QW : Wk → Hs → Prop} (m : ME) : (mRg1 m ρ G).wp QW E = (m ρ G).wp (fun v G => match v with
  | .int j => (-(2 ^ 62) ≤ j ∧ j < 2 ^ 62) ∧ QW (rgA 0 j, none) G
  | _ => False) E := by
  unfold mRg1
  rw [wp_bind]
  congr 1
  funext v G
  cases v <;> first | rfl | exact wp_guard _
@[simp] theorem wp_rg2 {QW : Wk → Hs → Prop} (ma mb : ME) : (mRg2 ma mb ρ G).wp QW E = (ma ρ G).wp (fun v G => (mb ρ G).wp (fun w G => match v, w with
  | .int i, .int j => (-(2 ^ 62) ≤ i ∧ i < 2 ^ 62 ∧ -(2 ^ 62) ≤ j ∧ j < 2 ^ 62) ∧ QW (rgA i j, none) G
  | _, _ => False) E) E := by
  unfold mRg2
  simp only [wp_bind]
  congr 1
  funext v G
  congr 1
  funext w G
  cases v <;> cases w <;> first | rfl | exact wp_guard _
theorem rgA_get {lo hi : Int} {i : Nat} {v : AV} (h : (rgA lo hi)[i]? = some v) : v = .int (lo + i) ∧ lo + i < hi := by
  unfold rgA at h
  rw [List.getElem?_map] at h
  by_cases hi' : i < (hi - lo).toNat
  · rw [List.getElem?_range hi'] at h
    cases h
    exact ⟨rfl, by omega⟩
  · rw [List.getElem?_eq_none (by simp; omega)] at h
    cases h
theorem rgA_len {lo hi : Int} : (rgA lo hi).length = (hi - lo).toNat := by simp [rgA]
/-- of items that change nothing -/
theorem lcF_pure {gd : Option (Nat × List AV)} {g : MG} {t : MB} {m : ME} {p : AV → Bool} {y : AV → AV} : ∀ (vs acc : List AV), (∀ acc, gdOk gd (G ++ [.lst acc])) → acc.length + vs.length ≤ szl →
    (∀ v ∈ vs, ∀ acc, ∃ ρ1, g v ρ (G ++ [.lst acc]) = .ok ρ1 (G ++ [.lst acc]) ∧ t ρ1 (G ++ [.lst acc]) = .ok (p v) (G ++ [.lst acc]) ∧ (p v = true → m ρ1 (G ++ [.lst acc]) = .ok (y v) (G ++ [.lst acc]))) →
    lcF gd g t m G.length ρ vs (G ++ [.lst acc]) = .ok () (G ++ [.lst (acc ++ (vs.filter p).map y)])
  | [], acc, hg, hl, hb => by
    simp only [lcF]
    rw [if_pos (hg acc)]
    simp
  | v :: vs, acc, hg, hl, hb => by
    obtain ⟨ρ1, e1, e2, e3⟩ := hb v (List.mem_cons_self ..) acc
    simp only [lcF]
    rw [if_pos (hg acc), e1]
    simp only [e2]
    rw [List.length_cons] at hl
    have ih := fun acc' (h : acc'.length + vs.length ≤ szl) => lcF_pure (gd := gd) (g := g) (t := t) (m := m) (p := p) (y := y) vs acc' hg h fun v hv => hb v (List.mem_cons_of_mem _ hv)
    cases hp : p v with
    | false =>
      simp only
      rw [ih acc (by omega), List.filter_cons_of_neg (by rw [hp]; decide)]
    | true =>
      have e3 := e3 hp
      simp only [e3, List.getElem?_concat_length]
      rw [if_pos (by omega)]
      have es : (G ++ [AO.lst acc]).set G.length (.lst (acc ++ [y v])) = G ++ [.lst (acc ++ [y v])] := by simp
      rw [es, ih (acc ++ [y v]) (by simp; omega), List.filter_cons_of_pos hp, List.map_cons, List.append_assoc]
      rfl
theorem wp_lcP {mi : MI} {g : MG} {t : MB} {m : ME} {own : List Nat} (p : AV → Bool) (y : AV → AV) (h : (mi ρ G).wp (fun k G => k.1.length ≤ szl ∧ gdOk k.2 G ∧
      (∀ v ∈ k.1, ∀ acc, ∃ ρ1, g v (wipeA ρ own) (G ++ [.lst acc]) = .ok ρ1 (G ++ [.lst acc]) ∧ t ρ1 (G ++ [.lst acc]) = .ok (p v) (G ++ [.lst acc]) ∧ (p v = true → m ρ1 (G ++ [.lst acc]) = .ok (y v) (G ++ [.lst acc]))) ∧
      QV (.ref G.length) (G ++ [.lst ((k.1.filter p).map y)])) E) : (mLc mi g t m own ρ G).wp QV E := by
  unfold mLc
  rw [wp_bind]
  refine h.mono (fun k G ⟨hl, hg, hb, hq⟩ => ?_) fun _ _ _ x => x
  have hg' : ∀ acc, gdOk k.2 (G ++ [.lst acc]) := fun acc => by
    cases e : k.2 with
    | none => exact True.intro
    | some q =>
      obtain ⟨n, xs⟩ := q
      rw [e] at hg
      exact (List.getElem?_append_left (List.getElem?_eq_some_iff.mp hg).1).trans hg
  rw [lcF_pure k.1 [] hg' (by simpa using hl) hb]
  exact hq
/-- with what holds ahead of each turn; acc: what is gathered -/
theorem lcF_inv {gd : Option (Nat × List AV)} {g : MG} {t : MB} {m : ME} {n : Nat} (I : Nat → List AV → Hs → Prop) : ∀ (vs : List AV) (i : Nat) (acc : List AV) (G : Hs), I i acc G → G[n]? = some (.lst acc) →
    (∀ j acc G, i ≤ j → j ≤ i + vs.length → I j acc G → gdOk gd G) →
    (∀ j v acc G, vs[j]? = some v → I (i + j) acc G → G[n]? = some (.lst acc) → ∃ ρ1 G1, g v ρ G = .ok ρ1 G1 ∧ (t ρ1 G1).wp (fun b G2 => if b = true then
      (m ρ1 G2).wp (fun y G3 => G3[n]? = some (.lst acc) ∧ acc.length < szl ∧ I (i + j + 1) (acc ++ [y]) (G3.set n (.lst (acc ++ [y])))) noX else G2[n]? = some (.lst acc) ∧ I (i + j + 1) acc G2) noX) →
    (lcF gd g t m n ρ vs G).wp (fun _ G => ∃ acc, G[n]? = some (.lst acc) ∧ I (i + vs.length) acc G) noX
  | [], i, acc, G, h, hn, hg, hs => by
    simp only [lcF]
    rw [if_pos (hg i acc G (Nat.le_refl _) (Nat.le_add_right ..) h)]
    exact ⟨acc, hn, h⟩
  | v :: vs, i, acc, G, h, hn, hg, hs => by
    simp only [lcF]
    rw [if_pos (hg i acc G (Nat.le_refl _) (Nat.le_add_right ..) h)]
    obtain ⟨ρ1, G1, e1, h1⟩ := hs 0 v acc G rfl h hn
    have next : ∀ acc2 G2, I (i + 1) acc2 G2 → G2[n]? = some (.lst acc2) → (lcF gd g t m n ρ vs G2).wp (fun _ G => ∃ acc, G[n]? = some (.lst acc) ∧ I (i + (v :: vs).length) acc G) noX := fun acc2 G2 h2 hn2 => by
      have := lcF_inv (gd := gd) (g := g) (t := t) (m := m) (n := n) I vs (i + 1) acc2 G2 h2 hn2 (fun j acc G l1 l2 => hg j acc G (by omega) (by rw [List.length_cons]; omega)) (fun j v acc G e hI hn => by
        have := hs (j + 1) v acc G e (by rw [show i + (j + 1) = i + 1 + j by omega]; exact hI) hn
        rw [show i + (j + 1) = i + 1 + j by omega] at this
        exact this)
      rw [List.length_cons, show i + (vs.length + 1) = i + 1 + vs.length by omega]
      exact this
    rw [e1]
    simp only
    cases e2 : t ρ1 G1 with
    | stuck => rw [e2] at h1; exact h1.elim
    | exc c d G' => rw [e2] at h1; exact h1.elim
    | ok b G2 =>
      rw [e2] at h1
      have h1 : (if b = true then (m ρ1 G2).wp (fun y G3 => G3[n]? = some (.lst acc) ∧ acc.length < szl ∧ I (i + 0 + 1) (acc ++ [y]) (G3.set n (.lst (acc ++ [y])))) noX else G2[n]? = some (.lst acc) ∧ I (i + 0 + 1) acc G2) := h1
      cases b with
      | false =>
        rw [if_neg Bool.false_ne_true] at h1
        exact next acc G2 h1.2 h1.1
      | true =>
        rw [if_pos rfl] at h1
        simp only
        cases e3 : m ρ1 G2 with
        | stuck => rw [e3] at h1; exact h1.elim
        | exc c d G' => rw [e3] at h1; exact h1.elim
        | ok y G3 =>
          rw [e3] at h1
          obtain ⟨h3, h4, h5⟩ := h1
          simp only [h3]
          rw [if_pos h4]
          exact next _ _ h5 (List.getElem?_set_self (List.getElem?_eq_some_iff.mp h3).1)
theorem wp_lc {mi : MI} {g : MG} {t : MB} {m : ME} {own : List Nat} (I : Nat → List AV → Hs → Prop) (h : (mi ρ G).wp (fun k G0 => I 0 [] (G0 ++ [.lst []]) ∧ (∀ j acc G, j ≤ k.1.length → I j acc G → gdOk k.2 G) ∧
      (∀ j v acc G, k.1[j]? = some v → I j acc G → G[G0.length]? = some (.lst acc) → ∃ ρ1 G1, g v (wipeA ρ own) G = .ok ρ1 G1 ∧ (t ρ1 G1).wp (fun b G2 => if b = true then
        (m ρ1 G2).wp (fun y G3 => G3[G0.length]? = some (.lst acc) ∧ acc.length < szl ∧ I (j + 1) (acc ++ [y]) (G3.set G0.length (.lst (acc ++ [y])))) noX else G2[G0.length]? = some (.lst acc) ∧ I (j + 1) acc G2) noX) ∧
      ∀ acc G, G[G0.length]? = some (.lst acc) → I k.1.length acc G → QV (.ref G0.length) G) E) : (mLc mi g t m own ρ G).wp QV E := by
  unfold mLc
  rw [wp_bind]
  refine h.mono (fun k G ⟨h0, hg, hs, he⟩ => ?_) fun _ _ _ x => x
  rw [wp_bind]
  have := lcF_inv (gd := k.2) (g := g) (t := t) (m := m) (n := G.length) (ρ := wipeA ρ own) I k.1 0 [] (G ++ [.lst []]) h0 (by simp) (fun j acc G _ l h => hg j acc G (by omega) h) (fun j v acc G e h hn => by
    rw [Nat.zero_add] at h ⊢
    exact hs j v acc G e h hn)
  refine this.to fun _ G2 ⟨acc, hn, hI⟩ => ?_
  rw [Nat.zero_add] at hI
  exact he acc G2 hn hI
end
end Vz
namespace Vz
open PySem L2
section
variable {QV : AV → Hs → Prop} {QP : List (Key × AV) → Hs → Prop} {E : XQ} {G : Hs} {ρ : En} {D : SP}
open Classical in
theorem wp_dict (trs : List (ME × ME)) : (mDict trs ρ G).wp QV E = (mPairs trs ρ (G ++ [.dk []])).wp (fun kvs G1 => (kvs.length ≤ 15 ∧ G1[G.length]? = some (.dk [])) ∧ QV (.ref G.length) (G1.set G.length (.dk (mergeA kvs)))) E := by
  unfold mDict
  rw [wp_bind]
  congr 1
  funext kvs G1
  exact wp_guard _
theorem wp_prs0 : (mPairs [] ρ G).wp QP E = QP [] G := rfl
theorem wp_prs (mk mv : ME) (r : List (ME × ME)) : (mPairs ((mk, mv) :: r) ρ G).wp QP E = (mk ρ G).wp (fun w G1 => (mv ρ G1).wp (fun u G2 => match kOf w with
  | some k => (mPairs r ρ G2).wp (fun kvs G3 => QP ((k, u) :: kvs) G3) E
  | none => False) E) E := by
  rw [mPairs, wp_bind]
  congr 1
  funext w G1
  rw [wp_bind]
  congr 1
  funext u G2
  cases kOf w with
  | none => rfl
  | some k =>
    show ((mPairs r ρ G2).bind _).wp _ _ = _
    rw [wp_bind]
    rfl
theorem fAdd_lst {m n : Nat} {xs ys : List AV} (h : G[m]? = some (.lst xs)) (h' : G[n]? = some (.lst ys)) : (fAdd (.ref m) (.ref n) G).wp QV E = (xs.length + ys.length ≤ szl ∧ QV (.ref G.length) (G ++ [.lst (xs ++ ys)])) := by
  show (match G[m]?, G[n]? with
    | some (.lst xs), some (.lst ys) => if xs.length + ys.length ≤ szl then .ok (.ref G.length) (G ++ [.lst (xs ++ ys)]) else .stuck
    | _, _ => .stuck : R AV).wp QV E = _
  rw [h, h']
  exact wp_guard _
noncomputable def b_begun (sd : Int) : MS := (mRet (mDict [((mC (.str "great")), (mLc (mWk (mVar 0)) (gNm 1) (mTest (m2 fGe (mVar 1) (m2 fPow (mC (.int 10)) (mC (.int 18))))) (mVar 1) [1])), ((mC (.str "rest")), (mC (.int 0))), ((mC (.str "turn")), (mC (.int 0))), ((mC (.str "seed")), (mC (.int sd))), ((mC (.str "cells")), (m2 fAdd (mLc (mWk (mVar 0)) (gNm 1) mYes (m2 fMod (mVar 1) (mC (.int 2147483629))) [1]) (mLst (mCons (mC (.int 77)) mNil))))]))
noncomputable def f_begun (sd : Int) : List AV → Hs → R AV := mFn 2 (b_begun sd)
def isGreat : AV → Bool
  | .int i => decide ((10 : Int) ^ 18 ≤ i)
  | _ => false
def ofCell : AV → AV
  | .int i => .int (i % 2147483629)
  | v => v
theorem filt_z : ∀ ns : List Int, (zAV ns).filter isGreat = zAV (ns.filter fun i => decide ((10 : Int) ^ 18 ≤ i))
  | [] => rfl
  | n :: ns => by
    have ih := filt_z ns
    unfold zAV at ih ⊢
    rw [List.map_cons]
    by_cases h : (10 : Int) ^ 18 ≤ n
    · rw [List.filter_cons_of_pos (by exact decide_eq_true h), List.filter_cons_of_pos (by exact decide_eq_true h), ih, List.map_cons]
    · rw [List.filter_cons_of_neg (by exact fun q => h (of_decide_eq_true q)), List.filter_cons_of_neg (by exact fun q => h (of_decide_eq_true q)), ih]
theorem begun_ok {sd : Int} (h0 : 0 ≤ sd) (h1 : sd < 2147483647) {ns : List Int} (hn : ns.length ≤ 63) : (f_begun sd [scriptAV ns] G).wp (fun v G' => ∃ s, v = .ref s ∧ Dr G'.length 0 s G' ∧ Kp 0 G G') noX := by
  have hz : (zAV ns).length ≤ szl := by
    rw [zAV_len]
    exact Nat.le_trans hn (by decide)
  unfold f_begun
  rw [wp_mFn]
  show (mRet _ [some (.lk (zAV ns)), none] G).wp _
  rw [wp_ret, wp_dict]
  simp only [wp_prs, wp_c, kOf]
  refine wp_lcP isGreat id ?_
  simp only [wp_wk, wp_var, List.getElem?_cons_zero, wkOf]
  refine ⟨hz, True.intro, fun v hv acc => ?_, ?_⟩
  · obtain ⟨i, _, rfl⟩ := List.mem_map.mp hv
    exact ⟨_, rfl, rfl, fun _ => rfl⟩
  simp only [wp_m2]
  refine wp_lcP (fun _ => true) ofCell ?_
  simp only [wp_wk, wp_var, List.getElem?_cons_zero, wkOf]
  refine ⟨hz, True.intro, fun v hv acc => ?_, ?_⟩
  · obtain ⟨i, _, rfl⟩ := List.mem_map.mp hv
    exact ⟨_, rfl, True.intro, fun _ => rfl⟩
  simp only [wp_lst, wp_cons, wp_c, wp_nil, List.map_id, filt_z]
  refine ⟨by decide, ?_⟩
  have hf : (zAV ns).filter (fun _ => true) = zAV ns := List.filter_eq_self.mpr fun _ _ => rfl
  rw [hf]
  have hmap : (zAV ns).map ofCell = zAV (ns.map fun i => i % 2147483629) := by
    unfold zAV
    rw [List.map_map, List.map_map]
    rfl
  rw [hmap]
  generalize hgs : ns.filter (fun i => decide ((10 : Int) ^ 18 ≤ i)) = gs
  have g0 : ∀ g ∈ gs, 0 ≤ g := fun g hg => by
    rw [← hgs] at hg
    have := of_decide_eq_true (List.mem_filter.mp hg).2
    omega
  generalize hcs : ns.map (fun i => i % 2147483629) = cs
  have c0 : ∀ c ∈ cs, 0 ≤ c ∧ c < 2147483629 := fun c hc => by
    rw [← hcs] at hc
    obtain ⟨i, _, rfl⟩ := List.mem_map.mp hc
    exact mod_b (by decide)
  have hcl : cs.length = ns.length := by rw [← hcs, List.length_map]
  have eG : (((G ++ [AO.dk []] ++ [AO.lst (zAV gs)] ++ [AO.lst (zAV cs)]) ++ [AO.lst [AV.int 77]]) : Hs) = G ++ [AO.dk [], .lst (zAV gs), .lst (zAV cs), .lst [.int 77]] := by simp
  have l1 : (G ++ [AO.dk []]).length = G.length + 1 := by simp
  have l2 : (G ++ [AO.dk []] ++ [AO.lst (zAV gs)]).length = G.length + 2 := by simp
  have l3 : (G ++ [AO.dk []] ++ [AO.lst (zAV gs)] ++ [AO.lst (zAV cs)]).length = G.length + 3 := by simp
  rw [l2, l3, eG]
  rw [fAdd_lst (xs := zAV cs) (ys := [.int 77]) (by simp) (by simp)]
  refine ⟨by rw [zAV_len, hcl]; exact Nat.le_trans (Nat.add_le_add_right hn 1) (by decide), ?_⟩
  rw [wp_prs0, l1]
  have l4 : (G ++ [AO.dk [], .lst (zAV gs), .lst (zAV cs), .lst [.int 77]]).length = G.length + 4 := by simp
  rw [l4]
  have hm : mergeA [(.inr "great", .ref (G.length + 1)), (.inr "rest", .int 0), (.inr "turn", .int 0), (.inr "seed", .int sd), (.inr "cells", .ref (G.length + 4))] = drK (G.length + 1) (G.length + 4) 0 0 sd := by
    simp [mergeA, putA, ofS_inj, drK]
  rw [hm]
  have eG2 : (G ++ [AO.dk [], .lst (zAV gs), .lst (zAV cs), .lst [.int 77]] ++ [AO.lst (zAV cs ++ [.int 77])]).set G.length (.dk (drK (G.length + 1) (G.length + 4) 0 0 sd)) =
      G ++ [AO.dk (drK (G.length + 1) (G.length + 4) 0 0 sd), .lst (zAV gs), .lst (zAV cs), .lst [.int 77], .lst (zAV (cs ++ [77]))] := by
    simp [zAV]
  rw [eG2]
  refine ⟨⟨by simp, by simp⟩, _, rfl, ?_, Kp.app _ _ _⟩
  refine ⟨G.length + 1, G.length + 4, gs, cs ++ [77], 0, 0, sd, ⟨by simp, by simp, by simp, by omega, by omega, by omega, by simp, by simp, by simp, by simp, g0, by simp, fun c hc => ?_, by decide, by decide, by decide, h0, h1⟩⟩
  rcases List.mem_append.mp hc with hc | hc
  · exact c0 c hc
  · rw [List.mem_singleton.mp hc]
    decide
end
end Vz
namespace Vz
open PySem L2
section
variable {QV : AV → Hs → Prop} {QB : Bool → Hs → Prop} {E : XQ} {G : Hs} {ρ : En} {D : SP} {b t s : Nat}
theorem take_wp {m : Int} (h : Dr b t s G) (hm : 0 < m) (hm2 : m < 2 ^ 64) (ht : t < 2 ^ 60) (hq : ∀ (r : Int) G', 0 ≤ r → r < m → Dr b (t + 1) s G' → Kp b G G' → QV (.int r) G') : (f_take [.ref s, .int m] G).wp QV E := by
  unfold f_take
  rw [wp_mFn]
  exact take_ok h hm hm2 ht hq
theorem begun_wp {sd : Int} (h0 : 0 ≤ sd) (h1 : sd < 2147483647) {ns : List Int} (hn : ns.length ≤ 63) (hq : ∀ s G', Dr G'.length 0 s G' → Kp 0 G G' → QV (.ref s) G') : (f_begun sd [scriptAV ns] G).wp QV E :=
  (begun_ok h0 h1 hn).mono (fun v G' ⟨s, e, h1, h2⟩ => by rw [e]; exact hq s G' h1 h2) fun _ _ _ => False.elim
theorem mg_nm (i : Nat) (v : AV) : MG.wp (gNm i v ρ G) D = D.nx (ρ.set i (some v)) G := rfl
theorem len_S {a : Str} : (fLen [.str a] G).wp QV E = (a.length ≤ szl ∧ QV (.int a.length) G) := wp_guard _
theorem flat_S : ∀ xs : List Str, (xs.map AV.str).all flatA = true
  | [] => rfl
  | _ :: xs => by
    rw [List.map_cons, List.all_cons, flat_S xs]
    rfl
theorem any_S (w : Str) : ∀ xs : List Str, ((xs.map AV.str).any fun y => eqA y (.str w)) = xs.any fun y => y == w
  | [] => rfl
  | x :: xs => by
    rw [List.map_cons, List.any_cons, List.any_cons, any_S w xs]
    rfl
theorem inB_seq {w : Str} {v : AV} {xs : List Str} (h : seqOf G v = some (xs.map .str)) (hs : ∀ z, v ≠ .str z) : inB G (.str w) v = some (xs.any fun y => y == w) := by
  have e : inB G (.str w) v = (match seqOf G v with
    | some xs => if flatA (.str w) = true ∧ xs.all flatA = true then some (xs.any fun y => eqA y (.str w)) else
      match lstOf G v, dat 12 G (.str w), allS (xs.map (dat 12 G)) with
      | some _, some d, some ds => if SeqAt.shaped d = true ∧ SeqAt.shaped (.list ds) = true then some (ds.any fun z => PyData.eqv z d) else none
      | _, _, _ => none
    | none => none) := by
    cases v <;> first | rfl | exact absurd rfl (hs _)
  rw [e, h]
  show (if _ then _ else _) = _
  rw [if_pos ⟨rfl, flat_S xs⟩, any_S]
theorem in_conS {w : Str} {xs : List Str} : (fIn (.str w) (.con (xs.map .str)) G).wp QV E = QV (.bl (xs.any fun y => y == w)) G := by
  unfold fIn
  rw [inB_seq rfl fun z e => by cases e]
  rfl
theorem bls_map : ∀ bs : List Bool, blsOf (bs.map AV.bl) = some bs
  | [] => rfl
  | b :: bs => by
    rw [List.map_cons, blsOf, bls_map bs]
/-- isinstance -/
theorem isi_wp {tab : List (Ty × Bool)} {v : AV} {ty : Ty} {r : Bool} (h1 : tyA G v = some ty) (h2 : tab.lookup ty = some r) : (fIsi tab v G).wp QV E = QV (.bl r) G := by
  unfold fIsi
  rw [h1]
  show (match tab.lookup ty with
    | some b => R.ok (.bl b) G
    | none => .stuck : R AV).wp QV E = _
  rw [h2]
  rfl
theorem tru_bl (b : Bool) : truB G (.bl b) = some b := rfl
theorem szl_eq : szl = 16777216 := rfl
end
end Vz
namespace Vz
open PySem PySem.Spec L2
section
variable {X : Cx} {W : WX} {a b c e o : Expr} {es rest : List Expr} {ma mb mc mo : ME} {ms mk : MEs} {pos p apos cpos : Pos} {x : Str} {k N n : Nat} {f C : Addr} {fd : FuncData} {ps ks : List Str} {F : List AV → Hs → R AV} {gA : List AV → List AV → List AV} {kws : List Keyword} {cn mn : Str}
/-- what __init__ gives is dropped -/
def mkR (r : R AV) (n : Nat) : R AV := match r with
  | .ok .non G => .ok (.ref n) G
  | .ok _ _ => .stuck
  | .exc c d G => .exc c d G
  | .stuck => .stuck
theorem mk_go {pins : List (Addr × Obj)} {σ : St} {H : Hp} {s : Shared} {Q : VK} {us ws : List Value} {vs zs : List V} {xs ys : List AV} {μ : Mu} {G : Hs} (M : Mk X.K (ga X.K cn) f)
    (D : FnG X.prog X.w X.K X.mg X.base (CX X.prog X.w) k f fd ps (fsp X.K ps.length F)) (hr : Rm (k + 1) X.A) (sh : Sh X.K fd ps (n + 1) ks gA) (tk : Takes X W)
    (I : Inv X pins σ H s) (r : Vals vs us) (rz : Vals zs ws) (l1 : xs.length = n) (l2 : ys.length = ks.length) (hG : RH X.K H μ G) (rx : RAs X.K H μ xs vs) (ry : RAs X.K H μ ys zs) (l3 : (gA (.ref G.length :: xs) ys).length = ps.length)
    (h : Po X.K (rA X.K) W σ H μ (mkR (F (gA (.ref G.length :: xs) ys) (G ++ [.ins cn []])) G.length) Q) : wpAny (model X.prog X.w) X.A (call (.ref (ga X.K cn)) us (ks.zip ws)) (EP X pins σ Q) X.xe s := by
  obtain ⟨g, gV, hb, hg⟩ := sh.ex
  have f1 : H s.heap.objs.size = none := I.hok.fresh (Nat.le_refl _)
  have f2 : H (s.heap.objs.size + 1) = none := I.hok.fresh (Nat.le_succ _)
  have ne : s.heap.objs.size + 1 ≠ s.heap.objs.size := Nat.succ_ne_self _
  have I2 := Inv.made (C := ga X.K cn) I
  have f3 : (upd H s.heap.objs.size (.own (s.heap.objs.size + 1))) (s.heap.objs.size + 1) = none := by rw [upd_ne ne]; exact f2
  have g1 : Gr H μ (upd H s.heap.objs.size (.own (s.heap.objs.size + 1))) μ := Gr.new f1
  have g2 := g1.trans (Gr.alloc (ho := .ins (ga X.K cn) s.heap.objs.size []) f3)
  have hG2 := (hG.new (ho := .own (s.heap.objs.size + 1)) f1).alloc (ho := .ins (ga X.K cn) s.heap.objs.size []) (o := .ins cn []) f3 ⟨_, [], upd_same, rfl, .nil⟩
  have r1 : Vals (V.ref (s.heap.objs.size + 1) :: vs) (Value.ref (s.heap.objs.size + 1) :: us) := .cons rfl r
  have r2 := hb.rel r1 rz
  have hfr := hG.fresh (s.heap.objs.size + 1)
  have rA2 := hg _ _ _ _ _ _ (RAs.cons (RA.ref (n := G.length) (a := s.heap.objs.size + 1) hfr) (rx.gr g2)) (ry.gr g2)
  have n1 : (Value.ref (s.heap.objs.size + 1) :: us).length = n + 1 := by
    rw [List.length_cons, ← r.length, ← rx.length, l1]
  refine wpAny_call (make_map (f := f) I.kIn M.makes M.init (beq_iff_eq.mp M.fn) (codeAny_mono (D.run _ X.stack _ _ ⟨Value.ref (s.heap.objs.size + 1) :: us, ks.zip ws⟩ (g (Value.ref (s.heap.objs.size + 1) :: us) ws) _
    (fun v H3 => v = .non ∧ Q (.ref (s.heap.objs.size + 1)) H3) (fun cls d H' => W cls d σ H') (hr.make _ us (ks.zip ws))
    (I2.env0.make _ us (ks.zip ws)) (hb.to _ (Value.ref (s.heap.objs.size + 1) :: us) ws I2.kIn n1 (rz.length.symm.trans (ry.length.symm.trans l2))) r2 ⟨by rw [← rA2.length]; exact l3, _, _, _, rA2, hG2, ?_⟩) fun r s' hq' => ?_))
  · cases q : F (gA (.ref G.length :: xs) ys) (G ++ [.ins cn []]) with
    | stuck => rw [q] at h; exact h.elim
    | exc c d G' =>
      rw [q] at h
      exact fun H' μ' dd g3 hr' hd => h H' μ' dd (g2.trans g3) hr' hd
    | ok v G' =>
      rw [q] at h
      cases v with
      | non =>
        intro H' μ' y g3 hG' ry'
        cases ry'
        exact ⟨rfl, h H' μ' (.ref (s.heap.objs.size + 1)) (g2.trans g3) hG' (.ref (hfr.gr g3))⟩
      | _ => exact h.elim
  · cases r with
    | error e => exact tk e s' (XE.of_call I2 (fun cls d H' h => h) hq')
    | ok fl =>
      cases fl with
      | ret u =>
        obtain ⟨v, H', I3, rv, ev, q3⟩ := I2.after hq'
        subst ev
        exact ⟨rv, ⟨V.ref (s.heap.objs.size + 1), H', I3, rfl, q3⟩⟩
      | next => exact False.elim hq'
      | brk => exact False.elim hq'
      | cont => exact False.elim hq'
def mMake (cn : Str) (N n m : Nat) (gA : List AV → List AV → List AV) (F : List AV → Hs → R AV) (ms mk : MEs) : ME := fun ρ G => (ms ρ G).bind fun xs G1 => (mk ρ G1).bind fun ys G2 =>
  if xs.length = n ∧ ys.length = m ∧ (gA (.ref G2.length :: xs) ys).length = N then mkR (F (gA (.ref G2.length :: xs) ys) (G2 ++ [.ins cn []])) G2.length else .stuck
theorem po_if {c : Prop} [Decidable c] {K : PySem.W.Frag} {σ : St} {H : Hp} {μ : Mu} {r : R AV} {Q : VK} (h : Po K (rA K) W σ H μ (if c then r else .stuck) Q) : c ∧ Po K (rA K) W σ H μ r Q := by
  by_cases hc : c
  · rw [if_pos hc] at h
    exact ⟨hc, h⟩
  · rw [if_neg hc] at h
    exact h.elim
/-- a class with all that its making leans on -/
structure Ck (P : Program) (w : World) (K : PySem.W.Frag) (mg : Str → Option Value) (base : Heap) (k : Nat) (cn : Str) (ps : List Str) (F : List AV → Hs → R AV) (shs : List Shp) : Prop where
  at_ : mg cn = some (.ref (ga K cn))
  mkr : Mk K (ga K cn) (He.ma K (ga K cn) "__init__")
  ex : ∃ fd, FnG P w K mg base (CX P w) k (He.ma K (ga K cn) "__init__") fd ps (fsp K ps.length F) ∧ ∀ s ∈ shs, Sh K fd ps (s.1 + 1) s.2.1 s.2.2
variable {shs : List Shp}
theorem se_mk (D : Ck X.prog X.w X.K X.mg X.base k cn ps F shs) (i : Nat) (hr : Rm (k + 1) X.A) (tk : Takes X W) (hg : Gl X cn) (ha : SA X W (e :: es) ms) (hi : shs[i]? = some (n, [], gA) := by rfl)
    (hdb : (cn == ("__debug__" : Str)) = false := by decide) (he : starEach (e :: es) X.env = (false, eval e X.env) :: starEach es X.env := by rfl) (hpl : (backTo pos (starEach es X.env)).any (·.1) = false := by rfl) :
    SE X W (.Call (.Name cn p) (e :: es) [] pos) (mMake cn ps.length n 0 gA F ms mNil) := by
  obtain ⟨fd, hF, hs⟩ := D.ex
  have sh := hs _ (List.mem_of_getElem? hi)
  refine ⟨fun pins s σ H Q I ⟨ρ, μ, G, hσ, hG, h⟩ => ?_⟩
  refine wpAny_Call_Name_kw (ld_glob I hg D.at_ ?_ hdb)
  refine PySem.W.callWith_K (h₀ := X.base) I.ok.mod.kin D.mkr.kp (thn (ha.run pos pins s σ H _ I (tG.bind (Q1 := fun vs H1 => ∃ xs μ1 G1, RAs X.K H1 μ1 xs vs ∧ RH X.K H1 μ1 G1 ∧ (xs.length = n ∧ (0 : Nat) = 0 ∧ (gA (.ref G1.length :: xs) []).length = ps.length) ∧
    Po X.K (rA X.K) W σ H1 μ1 (mkR (F (gA (.ref G1.length :: xs) []) (G1 ++ [.ins cn []])) G1.length) Q) hσ hG h
    fun xs G1 H1 μ1 vs g1 hσ1 hG1 rs h1 => ⟨xs, μ1, G1, rs, hG1, po_if (c := xs.length = n ∧ (0 : Nat) = 0 ∧ (gA (.ref G1.length :: xs) []).length = ps.length) (r := mkR (F (gA (.ref G1.length :: xs) []) (G1 ++ [.ins cn []])) G1.length) h1⟩)) fun us s1 ⟨vs, H1, I1, r, xs, μ1, G1, rs, hG1, ⟨l1, _, l3⟩, q⟩ => ⟨I1.kIn, ?_⟩) he hpl
  exact mk_go (ks := []) (ws := []) (zs := []) D.mkr hF hr sh tk I1 r .nil l1 rfl hG1 rs .nil l3 q
theorem se_mkk (D : Ck X.prog X.w X.K X.mg X.base k cn ps F shs) (i : Nat) (hr : Rm (k + 1) X.A) (tk : Takes X W) (hg : Gl X cn) (ha : SA X W (e :: es) ms) (hkw : SK X W kws mk) (hi : shs[i]? = some (n, ks, gA) := by rfl)
    (hall : (backToKw pos (keywordEach kws X.env)).all (·.1.isSome) = true := by rfl) (hks : (backToKw pos (keywordEach kws X.env)).filterMap (·.1) = ks := by rfl)
    (hdb : (cn == ("__debug__" : Str)) = false := by decide) (he : starEach (e :: es) X.env = (false, eval e X.env) :: starEach es X.env := by rfl)
    (hpl : ((backTo pos (starEach (e :: es) X.env)).any (·.1) || (backToKw pos (keywordEach kws X.env)).any (·.1.isNone)) = false := by rfl) :
    SE X W (.Call (.Name cn p) (e :: es) kws pos) (mMake cn ps.length n ks.length gA F ms mk) := by
  obtain ⟨fd, hF, hs⟩ := D.ex
  have sh := hs _ (List.mem_of_getElem? hi)
  refine ⟨fun pins s σ H Q I ⟨ρ, μ, G, hσ, hG, h⟩ => ?_⟩
  refine wpAny_Call_Name_kw (ld_glob I hg D.at_ ?_ hdb)
  refine PySem.W.callWith_KW (h₀ := X.base) I.ok.mod.kin D.mkr.kp hall (thn (ha.run pos pins s σ H _ I (tG.bind (Q1 := fun vs H1 => ∃ xs μ1 G1, RS X.K H1 μ1 ρ σ ∧ RAs X.K H1 μ1 xs vs ∧ RH X.K H1 μ1 G1 ∧ Po X.K (rA X.K) W σ H1 μ1 ((mk ρ G1).bind fun ys G2 =>
    if xs.length = n ∧ ys.length = ks.length ∧ (gA (.ref G2.length :: xs) ys).length = ps.length then mkR (F (gA (.ref G2.length :: xs) ys) (G2 ++ [.ins cn []])) G2.length else .stuck) Q) hσ hG h
    fun xs G1 H1 μ1 vs g1 hσ1 hG1 rs h1 => ⟨xs, μ1, G1, hσ1, rs, hG1, h1⟩)) fun us s1 ⟨vs, H1, I1, r, xs, μ1, G1, hσ1, rs, hG1, q⟩ => ?_) hpl he
  refine thn (hkw.run pos pins s1 σ H1 _ I1 (tG.bind (Q1 := fun zs H2 => ∃ ys μ2 G2, RAs X.K H2 μ2 xs vs ∧ RAs X.K H2 μ2 ys zs ∧ RH X.K H2 μ2 G2 ∧ (xs.length = n ∧ ys.length = ks.length ∧ (gA (.ref G2.length :: xs) ys).length = ps.length) ∧
    Po X.K (rA X.K) W σ H2 μ2 (mkR (F (gA (.ref G2.length :: xs) ys) (G2 ++ [.ins cn []])) G2.length) Q) hσ1 hG1 q
    fun ys G2 H2 μ2 zs g2 hσ2 hG2 rz h2 => ⟨ys, μ2, G2, rs.gr g2, rz, hG2, po_if h2⟩)) fun ws s2 ⟨zs, H2, I2, rzv, ys, μ2, G2, rs2, rz, hG2, ⟨l1, l2, l3⟩, q2⟩ => ⟨I2.kIn, ?_⟩
  rw [hks]
  exact mk_go D.mkr hF hr sh tk I2 r rzv l1 l2 hG2 rs2 rz l3 q2
theorem se_mkk0 (D : Ck X.prog X.w X.K X.mg X.base k cn ps F shs) (i : Nat) (hr : Rm (k + 1) X.A) (tk : Takes X W) (hg : Gl X cn) (hkw : SK X W kws mk) (hi : shs[i]? = some (0, ks, gA) := by rfl)
    (hall : (backToKw pos (keywordEach kws X.env)).all (·.1.isSome) = true := by rfl) (hks : (backToKw pos (keywordEach kws X.env)).filterMap (·.1) = ks := by rfl)
    (hdb : (cn == ("__debug__" : Str)) = false := by decide) (hpl : ((backTo pos (starEach [] X.env)).any (·.1) || (backToKw pos (keywordEach kws X.env)).any (·.1.isNone)) = false := by rfl) :
    SE X W (.Call (.Name cn p) [] kws pos) (mMake cn ps.length 0 ks.length gA F mNil mk) := by
  obtain ⟨fd, hF, hs⟩ := D.ex
  have sh := hs _ (List.mem_of_getElem? hi)
  refine ⟨fun pins s σ H Q I ⟨ρ, μ, G, hσ, hG, h⟩ => ?_⟩
  refine wpAny_Call_Name_kw (ld_glob I hg D.at_ ?_ hdb)
  refine PySem.W.callWith_KW0 (h₀ := X.base) I.ok.mod.kin D.mkr.kp hall ?_ hpl
  have h : Po X.K (rA X.K) W σ H μ ((mk ρ G).bind fun ys G2 => if ([] : List AV).length = 0 ∧ ys.length = ks.length ∧ (gA (.ref G2.length :: []) ys).length = ps.length then mkR (F (gA (.ref G2.length :: []) ys) (G2 ++ [.ins cn []])) G2.length else .stuck) Q := h
  refine thn (hkw.run pos pins s σ H _ I (tG.bind (Q1 := fun zs H2 => ∃ ys μ2 G2, RAs X.K H2 μ2 ys zs ∧ RH X.K H2 μ2 G2 ∧ (([] : List AV).length = 0 ∧ ys.length = ks.length ∧ (gA (.ref G2.length :: []) ys).length = ps.length) ∧
    Po X.K (rA X.K) W σ H2 μ2 (mkR (F (gA (.ref G2.length :: []) ys) (G2 ++ [.ins cn []])) G2.length) Q) hσ hG h
    fun ys G2 H2 μ2 zs g2 hσ2 hG2 rz h2 => ⟨ys, μ2, G2, rz, hG2, po_if h2⟩)) fun ws s2 ⟨zs, H2, I2, rzv, ys, μ2, G2, rz, hG2, ⟨l1, l2, l3⟩, q2⟩ => ⟨I2.kIn, ?_⟩
  rw [hks]
  exact mk_go (us := []) (vs := []) D.mkr hF hr sh tk I2 .nil rzv rfl l2 hG2 .nil rz l3 q2
structure Tk (P : Program) (w : World) (K : PySem.W.Frag) (mg : Str → Option Value) (base : Heap) (k : Nat) (cn mn : Str) (ps : List Str) (F : List AV → Hs → R AV) (shs : List Shp) : Prop where
  cls : Cls K (ga K cn)
  mt : Meth K (ga K cn) mn (He.ma K (ga K cn) mn)
  ex : ∃ fd, FnG P w K mg base (CX P w) k (He.ma K (ga K cn) mn) fd ps (fsp K ps.length F) ∧ ∀ s ∈ shs, Sh K fd ps (s.1 + 1) s.2.1 s.2.2
/-- o is an instance of cn, without a field mn -/
def insOf (cn mn : Str) (G : Hs) : AV → Bool
  | .ref i => match G[i]? with
    | some (.ins c fs) => decide (c = cn) && (fs.lookup mn).isNone
    | _ => false
  | .iv c ns _ => decide (c = cn) && !decide (mn ∈ ns)
  | _ => false
theorem nolook_of {α : Type} {mn : Str} : ∀ {gs : List (Str × α)}, mn ∉ gs.map (·.1) → gs.lookup mn = none
  | [], _ => rfl
  | (g, u) :: gs, h => by
    rw [List.map_cons, List.mem_cons, not_or] at h
    rw [List.lookup_cons, beq_eq_false_iff_ne.mpr h.1]
    exact nolook_of h.2
def mMeth (cn mn : Str) (N n m : Nat) (gA : List AV → List AV → List AV) (F : List AV → Hs → R AV) (mo : ME) (ms mk : MEs) : ME := fun ρ G => (mo ρ G).bind fun v G0 => if insOf cn mn G0 v = true then (ms ρ G0).bind fun xs G1 => (mk ρ G1).bind fun ys G2 =>
  if xs.length = n ∧ ys.length = m ∧ (gA (v :: xs) ys).length = N then F (gA (v :: xs) ys) G2 else .stuck else .stuck
theorem RF.nolook' {K : PySem.W.Frag} {H : Hp} {μ : Mu} {f : Str} : ∀ {fs : List (Str × AV)} {gs : List (Str × V)}, RF K H μ fs gs → fs.lookup f = none → gs.lookup f = none
  | [], [], _, _ => rfl
  | [], _ :: _, h, _ => by cases h.1
  | (g, u) :: fs, gs, h, e => by
    obtain ⟨z, gs', rfl, _, t⟩ := h.cons_inv
    rw [List.lookup_cons] at e ⊢
    cases q : (f == g) with
    | true => rw [q] at e; cases e
    | false => rw [q] at e; exact RF.nolook' t e
theorem ins_of {K : PySem.W.Frag} {H : Hp} {μ : Mu} {G : Hs} {v : AV} {x : V} (hG : RH K H μ G) (r : RA K H μ v x) (h : insOf cn mn G v = true) : ∃ a dx gs, x = .ref a ∧ H a = some (.ins (ga K cn) dx gs) ∧ gs.lookup mn = none := by
  cases r with
  | ref hn =>
    obtain ⟨ob, ho, ro⟩ := hG.obj hn
    simp only [insOf, ho] at h
    cases ob with
    | ins c fs =>
      obtain ⟨h1, h2⟩ := Bool.and_eq_true_iff.mp h
      obtain ⟨dx, gs, h3, rf⟩ := ro
      obtain rfl : c = cn := of_decide_eq_true h1
      exact ⟨_, dx, gs, rfl, h3, rf.nolook' (by
        cases q : fs.lookup mn with
        | none => rfl
        | some u => rw [q] at h2; cases h2)⟩
    | _ => cases h
  | @iv a dx c ns gs xs h1 h2 h3 h4 =>
    obtain ⟨k1, k2⟩ := Bool.and_eq_true_iff.mp (show (decide (c = cn) && !decide (mn ∈ ns)) = true from h)
    obtain rfl : c = cn := of_decide_eq_true k1
    subst h3
    exact ⟨_, dx, gs, rfl, h1, nolook_of (by simpa using k2)⟩
  | _ => cases h
section
variable (D : Tk X.prog X.w X.K X.mg X.base k cn mn ps F shs) (i : Nat)
include D
theorem se_mt {pl : Sem Bool} (hr : Rm k X.A) (tk : Takes X W) (ho : SE X W o mo) (ha : SA X W (e :: es) ms) (hi : shs[i]? = some (n, [], gA) := by rfl)
    (hst : starEach (e :: es) X.env = (false, eval e X.env) :: starEach es X.env := by rfl) (hpl : (backTo pos (starEach es X.env)).any (·.1) = false := by rfl)
    (ht : eval (.Call (.Attribute o mn apos) (e :: es) [] pos) X.env = (do
      let ov ← eval o X.env
      standAt apos.atName
      let (f, first) ← holding [ov] (getMethod ov mn pl)
      callWith pos f first (backTo pos (starEach (e :: es) X.env)) (backToKw pos (keywordEach [] X.env))) := by rfl) :
    SE X W (.Call (.Attribute o mn apos) (e :: es) [] pos) (mMeth cn mn ps.length n 0 gA F mo ms mNil) := by
  obtain ⟨fd, hF, hs⟩ := D.ex
  have sh := hs _ (List.mem_of_getElem? hi)
  refine ⟨fun pins s σ H Q I ⟨ρ, μ, G, hσ, hG, h⟩ => ?_⟩
  refine PySem.W.methodCall_KW (pl := pl) (thn (ho.run pins s σ H _ I (tG.bind (Q1 := fun x H1 => ∃ v μ1 G1, RS X.K H1 μ1 ρ σ ∧ RA X.K H1 μ1 v x ∧ RH X.K H1 μ1 G1 ∧ insOf cn mn G1 v = true ∧ Po X.K (rA X.K) W σ H1 μ1 ((ms ρ G1).bind fun xs G1 => (mNil ρ G1).bind fun ys G2 =>
    if xs.length = n ∧ ys.length = 0 ∧ (gA (v :: xs) ys).length = ps.length then F (gA (v :: xs) ys) G2 else .stuck) Q) hσ hG h fun v G1 H1 μ1 x g1 hσ1 hG1 rv h1 => ?_)) fun u s1 ⟨x, H1, I1, rx, v, μ1, G1, hσ1, rv, hG1, hins, q⟩ => ?_) ht
  · obtain ⟨hq, h2⟩ := po_if h1
    exact ⟨v, μ1, G1, hσ1, rv, hG1, hq, h2⟩
  · obtain ⟨a, dx, gs, rfl, ea, l⟩ := ins_of hG1 rv hins
    obtain rfl : u = Value.ref a := rx
    refine getmeth_ok I1 ea D.cls D.mt l ?_
    refine PySem.W.callWith_K (first := [.ref a]) (h₀ := X.base) I.ok.mod.kin D.mt.kp (thn (ha.run pos pins s1 σ H1 _ I1 (tG.bind (Q1 := fun vs H2 => ∃ xs μ2 G2, RAs X.K H2 μ2 (v :: xs) (.ref a :: vs) ∧ RH X.K H2 μ2 G2 ∧ (xs.length = n ∧ (0 : Nat) = 0 ∧ (gA (v :: xs) []).length = ps.length) ∧ Po X.K (rA X.K) W σ H2 μ2 (F (gA (v :: xs) []) G2) Q) hσ1 hG1 q
      fun xs G2 H2 μ2 vs g2 hσ2 hG2 rs h2 => ⟨xs, μ2, G2, .cons (rv.gr g2) rs, hG2, po_if (c := xs.length = n ∧ (0 : Nat) = 0 ∧ (gA (v :: xs) []).length = ps.length) (r := F (gA (v :: xs) []) G2) h2⟩)) fun us s2 ⟨vs, H2, I2, r, xs, μ2, G2, rs, hG2, ⟨l1, _, l3⟩, q2⟩ => ⟨I2.kIn, ?_⟩) hst hpl
    exact run_go (us := .ref a :: us) (vs := .ref a :: vs) (xs := v :: xs) (ks := []) (ws := []) (zs := []) hF hr sh tk I2 (.cons rfl r) .nil (by rw [List.length_cons, l1]) rfl hG2 rs .nil l3 q2
end
end
end Vz
namespace Vz
open PySem L2
section
variable {X : Cx} {W : WX} {a b c e o tg iter tg1 iter1 elt v1 v2 : Expr} {es rest : List Expr} {m ma mb mc mo : ME} {t t1 : MB} {ms mk : MEs} {pos p apos cpos : Pos} {x : Str} {K : PySem.W.Frag}
def fIAdd : AV → AV → Hs → R AV
  | .int i, .int j, G => .ok (.int (i + j)) G
  | .str a, .str b, G => if a.length + b.length ≤ szl then .ok (.str (a ++ b)) G else .stuck
  | .ref m, .ref n, G => match G[m]?, G[n]? with
    | some (.lst xs), some (.lst ys) => if xs.length + ys.length ≤ szl then .ok (.ref m) (G.set m (.lst (xs ++ ys))) else .stuck
    | _, _ => .stuck
  | _, _, _ => .stuck
def fStarts : AV → List AV → Hs → R AV
  | .str a, [.str b], G => .ok (.bl (Txt.startswith a b)) G
  | _, _, _ => .stuck
def fExt : AV → List AV → Hs → R AV
  | .ref m, [.ref n], G => match G[m]?, G[n]? with
    | some (.lst xs), some (.lst ys) => if xs.length + ys.length ≤ szl then .ok .non (G.set m (.lst (xs ++ ys))) else .stuck
    | _, _ => .stuck
  | _, _, _ => .stuck
theorem opM_ext : OpM K rExtend fExt := by
  intro W σ H μ G v vs x xs Q hG rv rs q
  match v, vs, rv, rs, q with
  | .ref m, [.ref n], rv, rs, q =>
    obtain ⟨y, rfl, ry⟩ := rs.one
    simp only [fExt] at q
    cases e1 : G[m]? with
    | none => simp only [e1] at q; exact q.elim
    | some o1 =>
      cases e2 : G[n]? with
      | none => rw [e1, e2] at q; cases o1 <;> exact q.elim
      | some o2 =>
        rw [e1, e2] at q
        cases o1 with
        | lst xs =>
          cases o2 with
          | lst ys =>
            obtain ⟨hz, q⟩ := po_if q
            obtain ⟨p1, vs, rfl, hn, hH, rz⟩ := mut_ok hG rv e1
            obtain ⟨p2, ws, rfl, hn2, hH2, rz2⟩ := mut_ok hG ry e2
            have gp : Gr H μ (upd H p1 (.lst (vs ++ ws))) μ := Gr.put hG hn e1
            exact ⟨p1, p2, vs, ws, rfl, rfl, hH, hH2, by rw [← rz.length, ← rz2.length]; exact hz, q _ μ _ gp (hG.put (o := .lst (xs ++ ys)) hn e1 ⟨_, upd_same, (rz.app rz2).gr gp⟩) .non⟩
          | _ => exact q.elim
        | _ => exact q.elim
/-- the turns of the inner walk, as the layer asks for them -/
theorem lcIn_go {S own : List Nat} {g : MG} (hS : ∀ j ∈ S, j ∈ own) {γ δ : Type} {rel' : Rel γ δ} {σ σ' : St} {H0 H4 : Hp} {μ0 μ4 : Mu} {G4 : Hs} {ρ : En} {k1 : Wk} {J1 : It} {n : Nat} {D : Addr} {kont : Unit → Hs → R γ} {Q : δ → Hp → Prop} {Nx : Hp → Prop}
    (hσ : RS K H4 μ4 ρ σ) (g04 : Gr H0 μ0 H4 μ4) (hD : Num μ4 (n) D) (hG : RH K H4 μ4 G4) (ok : ItOk K J1 k1 H4 μ4)
    (h : Po K rel' W σ' H4 μ4 ((lcF k1.2 g t m n (wipeA ρ own) k1.1 G4).bind kont) Q) (hN : ∀ H μ G, Gr H0 μ0 H μ → RH K H μ G → Po K rel' W σ' H μ (kont () G) Q → Nx H) :
    ∃ W1 : Nat → Nat → Hp → Prop, (∃ mm, W1 0 mm H4) ∧ ∀ j kk H, W1 j kk H → (J1.stop j H ∧ Nx H) ∨ (J1.go j H ∧ ∃ Nx1 : Hp → Prop, (∀ H', Nx1 H' → ∃ k', k' < kk ∧ W1 (j + 1) k' H') ∧
      ∀ x H', J1.yld j H x H' → tT K WN S g x (L2.wipe σ own) H' fun σ3 H5 => L2.wipe σ3 own = L2.wipe σ own ∧ tG K rB WN t σ3 H5 fun b H6 =>
        if b = true then tG K (rA K) WN m σ3 H6 fun y H7 => ∃ acc, H7 D = some (.lst acc) ∧ acc.length < sizeLine ∧ Nx1 (upd H7 D (.lst (acc ++ [y]))) else Nx1 H6) := by
  have hw := hσ.wipe own
  refine ⟨fun i mm H => mm = k1.1.length - i ∧ i ≤ k1.1.length ∧ ∃ μ G, Gr H4 μ4 H μ ∧ RH K H μ G ∧ Po K rel' W σ' H μ ((lcF k1.2 g t m n (wipeA ρ own) (k1.1.drop i) G).bind kont) Q,
    ⟨k1.1.length, rfl, Nat.zero_le _, _, _, Gr.refl _ _, hG, h⟩, ?_⟩
  rintro i mm H2 ⟨rfl, hi2, μ2, G2, g2, hG2, h2⟩
  by_cases hlt : i < k1.1.length
  · rw [List.drop_eq_getElem_cons hlt] at h2
    simp only [lcF] at h2
    by_cases hgd : gdOk k1.2 G2
    · rw [if_pos hgd] at h2
      obtain ⟨go, yl⟩ := (ok i H2 μ2 G2 g2 hG2 hgd).1 _ (List.getElem?_eq_getElem hlt)
      refine .inr ⟨go, fun H' => ∃ μ G, Gr H4 μ4 H' μ ∧ RH K H' μ G ∧ Po K rel' W σ' H' μ ((lcF k1.2 g t m n (wipeA ρ own) (k1.1.drop (i + 1)) G).bind kont) Q,
        fun H' z => ⟨k1.1.length - (i + 1), by omega, rfl, hlt, z⟩, fun x H' y => ?_⟩
      obtain ⟨g3, hG3, rx⟩ := yl x H' y
      have g13 := g2.trans g3
      refine ⟨_, wipeA ρ own, μ2, G2, rx, hw.gr g13, hG3, ?_⟩
      have h3 := Po.gr g3 h2
      cases e3 : g k1.1[i] (wipeA ρ own) G2 with
      | stuck => rw [e3] at h3; exact h3
      | exc c d G' => rw [e3] at h3; exact h3
      | ok ρ5 G5 =>
        rw [e3] at h3
        simp only at h3
        intro H5 μ5 σ5 g5 hG5 hσ5 l5 j5
        have h5 := Po.gr g5 h3
        have g15 := g13.trans g5
        refine ⟨(wipe_eq hS l5 j5).trans wipe_wipe, ρ5, μ5, G5, hσ5, hG5, ?_⟩
        cases e4 : t ρ5 G5 with
        | stuck => rw [e4] at h5; exact h5
        | exc c d G' => rw [e4] at h5; exact h5.elim
        | ok b G6 =>
          rw [e4] at h5
          intro H6 μ6 b' g6 hG6 eb
          have eb : b = b' := eb
          subst eb
          have h6 := Po.gr g6 h5
          have g16 := g15.trans g6
          cases b with
          | false => exact iteF ⟨μ6, G6, g16, hG6, h6⟩
          | true =>
            refine iteT ⟨ρ5, μ6, G6, hσ5.gr g6, hG6, ?_⟩
            simp only at h6
            cases e6 : m ρ5 G6 with
            | stuck => rw [e6] at h6; exact h6
            | exc c d G' => rw [e6] at h6; exact h6.elim
            | ok y G7 =>
              rw [e6] at h6
              simp only at h6
              intro H7 μ7 y' g7 hG7 ry
              have h7 := Po.gr g7 h6
              have g17 := g16.trans g7
              have hDn7 : Num μ7 (n) D := hD.gr g17
              obtain ⟨ob, ho, ro⟩ := hG7.obj hDn7
              rw [ho] at h7
              cases ob with
              | lst acc =>
                simp only at h7
                obtain ⟨vs, hv, rs⟩ := ro
                by_cases hz : acc.length < szl
                · rw [if_pos hz] at h7
                  have gp : Gr H7 μ7 (upd H7 D (.lst (vs ++ [y']))) μ7 := Gr.put hG7 hDn7 ho
                  exact ⟨vs, hv, by rw [← rs.length]; exact hz, μ7, _, g17.trans gp, hG7.put (o := .lst (acc ++ [y])) hDn7 ho ⟨_, upd_same, (rs.app (.cons ry .nil)).gr gp⟩, Po.gr gp h7⟩
                · rw [if_neg hz] at h7
                  exact h7.elim
              | _ => exact h7.elim
    · rw [if_neg hgd] at h2
      exact h2.elim
  · have ei : i = k1.1.length := by omega
    rw [List.drop_eq_nil_of_le (by omega)] at h2
    simp only [lcF] at h2
    by_cases hgd : gdOk k1.2 G2
    · rw [if_pos hgd] at h2
      exact .inl ⟨(ok i H2 μ2 G2 g2 hG2 hgd).2 (by omega), hN H2 μ2 G2 (g04.trans g2) hG2 h2⟩
    · rw [if_neg hgd] at h2
      exact h2.elim
end
end Vz
namespace Vz
open PySem L2
section
variable {X : Cx} {W : WX} {a b c e o tg iter tg1 iter1 elt : Expr} {es rest : List Expr} {m ma mb mc mo : ME} {t t1 : MB} {ms mk : MEs} {pos p apos cpos : Pos} {x : Str} {K : PySem.W.Frag} {g g1 : MG} {mi mi1 : MI}
open Classical in
noncomputable def lc2F (gd : Option (Nat × List AV)) (g : MG) (t : MB) (mi1 : MI) (g1 : MG) (t1 : MB) (own1 : List Nat) (m : ME) (n : Nat) (ρ : En) : List AV → Hs → R Unit
  | [], G => if gdOk gd G then .ok () G else .stuck
  | v :: vs, G => if gdOk gd G then match g v ρ G with
      | .ok ρ1 G1 => match t ρ1 G1 with
        | .ok true G2 => match mi1 ρ1 G2 with
          | .ok k1 G3 => match lcF k1.2 g1 t1 m n (wipeA ρ1 own1) k1.1 G3 with
            | .ok _ G4 => lc2F gd g t mi1 g1 t1 own1 m n ρ vs G4
            | _ => .stuck
          | _ => .stuck
        | .ok false G2 => lc2F gd g t mi1 g1 t1 own1 m n ρ vs G2
        | _ => .stuck
      | _ => .stuck
    else .stuck
noncomputable def mLc2 (mi : MI) (g : MG) (t : MB) (mi1 : MI) (g1 : MG) (t1 : MB) (m : ME) (own own1 : List Nat) : ME := fun ρ G => (mi ρ G).bind fun k G1 => (lc2F k.2 g t mi1 g1 t1 own1 m G1.length (wipeA ρ own) k.1 (G1 ++ [.lst []])).bind fun _ G2 => .ok (.ref G1.length) G2
theorem lc2_go {S own S1 own1 : List Nat} (hS : ∀ j ∈ S, j ∈ own) (hS1 : ∀ j ∈ S1, j ∈ own1) {σ : St} {H : Hp} {Q : VK} (h : tG K (rA K) W (mLc2 mi g t mi1 g1 t1 m own own1) σ H Q) :
    tLc2 (tI K W mi) (tT K WN S g) (tG K rB WN t) (tI K WN mi1) (tT K WN S1 g1) (tG K rB WN t1) (tG K (rA K) WN m) own own1 σ H Q := by
  obtain ⟨ρ, μ, G, hσ, hG, h⟩ := h
  refine ⟨ρ, μ, G, hσ, hG, ?_⟩
  unfold mLc2 at h
  cases e : mi ρ G with
  | stuck => rw [e] at h; exact h
  | exc c d G1 => rw [e] at h; exact h
  | ok k G1 =>
    rw [e] at h
    simp only [R.bind_ok] at h
    intro H1 μ1 J g1' hG1 ok D hD
    have gD : Gr H1 μ1 (upd H1 D (.lst [])) (μ1 ++ [some D]) := Gr.alloc hD
    have hGD : RH K (upd H1 D (.lst [])) (μ1 ++ [some D]) (G1 ++ [.lst []]) := hG1.alloc hD ⟨[], upd_same, .nil⟩
    have hDn : Num (μ1 ++ [some D]) G1.length D := hG1.fresh D
    have hw := (hσ.gr (g1'.trans gD)).wipe own
    have h0 : Po K (rA K) W σ (upd H1 D (.lst [])) (μ1 ++ [some D]) ((lc2F k.2 g t mi1 g1 t1 own1 m G1.length (wipeA ρ own) k.1 (G1 ++ [.lst []])).bind fun _ G2 => .ok (.ref G1.length) G2) Q := Po.gr (g1'.trans gD) h
    refine ⟨fun i mm H => mm = k.1.length - i ∧ i ≤ k.1.length ∧ ∃ μ G, Gr (upd H1 D (.lst [])) (μ1 ++ [some D]) H μ ∧ RH K H μ G ∧ Po K (rA K) W σ H μ ((lc2F k.2 g t mi1 g1 t1 own1 m G1.length (wipeA ρ own) (k.1.drop i) G).bind fun _ G2 => .ok (.ref G1.length) G2) Q,
      ⟨k.1.length, rfl, Nat.zero_le _, _, _, Gr.refl _ _, hGD, h0⟩, ?_⟩
    rintro i mm H2 ⟨rfl, hi2, μ2, G2, g2, hG2, h2⟩
    have hDn2 : Num μ2 (G1.length) D := hDn.gr g2
    by_cases hlt : i < k.1.length
    · rw [List.drop_eq_getElem_cons hlt] at h2
      simp only [lc2F] at h2
      by_cases hgd : gdOk k.2 G2
      · rw [if_pos hgd] at h2
        obtain ⟨go, yl⟩ := (ok i H2 μ2 G2 (gD.trans g2) hG2 hgd).1 _ (List.getElem?_eq_getElem hlt)
        refine .inr ⟨go, fun H' => ∃ μ G, Gr (upd H1 D (.lst [])) (μ1 ++ [some D]) H' μ ∧ RH K H' μ G ∧ Po K (rA K) W σ H' μ ((lc2F k.2 g t mi1 g1 t1 own1 m G1.length (wipeA ρ own) (k.1.drop (i + 1)) G).bind fun _ G2 => .ok (.ref G1.length) G2) Q,
          fun H' z => ⟨k.1.length - (i + 1), by omega, rfl, hlt, z⟩, fun x H' y => ?_⟩
        obtain ⟨g3, hG3, rx⟩ := yl x H' y
        have g13 := g2.trans g3
        refine ⟨_, wipeA ρ own, μ2, G2, rx, hw.gr g13, hG3, ?_⟩
        have h3 := Po.gr g3 h2
        cases e3 : g k.1[i] (wipeA ρ own) G2 with
        | stuck => rw [e3] at h3; exact h3
        | exc c d G' => rw [e3] at h3; exact h3
        | ok ρ4 G4 =>
          rw [e3] at h3
          simp only at h3
          intro H4 μ4 σ4 g4 hG4 hσ4 l4 j4
          have h4 := Po.gr g4 h3
          have g14 := g13.trans g4
          refine ⟨(wipe_eq hS l4 j4).trans wipe_wipe, ρ4, μ4, G4, hσ4, hG4, ?_⟩
          cases e4 : t ρ4 G4 with
          | stuck => rw [e4] at h4; exact h4
          | exc c d G' => rw [e4] at h4; exact h4.elim
          | ok b G5 =>
            rw [e4] at h4
            intro H5 μ5 b' g5 hG5 eb
            have eb : b = b' := eb
            subst eb
            have h5 := Po.gr g5 h4
            have g15 := g14.trans g5
            cases b with
            | false => exact iteF ⟨μ5, G5, g15, hG5, h5⟩
            | true =>
              refine iteT ⟨ρ4, μ5, G5, hσ4.gr g5, hG5, ?_⟩
              simp only at h5
              cases e6 : mi1 ρ4 G5 with
              | stuck => rw [e6] at h5; exact h5
              | exc c d G' => rw [e6] at h5; exact h5.elim
              | ok k1 G6 =>
                rw [e6] at h5
                simp only at h5
                intro H6 μ6 J1 g6 hG6 ok1
                have h6 := Po.gr g6 h5
                have g16 := g15.trans g6
                refine lcIn_go (Q := Q) (kont := fun _ G => (lc2F k.2 g t mi1 g1 t1 own1 m G1.length (wipeA ρ own) (k.1.drop (i + 1)) G).bind fun _ G2 => .ok (.ref G1.length) G2) (rel' := rA K) (σ' := σ) (n := G1.length) hS1 ((hσ4.gr g5).gr g6) g16 (hDn.gr g16) hG6 ok1 ?_ fun H μ G gg hg hp => ⟨μ, G, gg, hg, hp⟩
                cases e7 : lcF k1.2 g1 t1 m G1.length (wipeA ρ4 own1) k1.1 G6 with
                | stuck => rw [e7] at h6; exact h6
                | exc c d G' => rw [e7] at h6; exact h6.elim
                | ok u G7 => rw [e7] at h6; exact h6
      · rw [if_neg hgd] at h2
        exact h2.elim
    · have ei : i = k.1.length := by omega
      rw [List.drop_eq_nil_of_le (by omega)] at h2
      simp only [lc2F] at h2
      by_cases hgd : gdOk k.2 G2
      · rw [if_pos hgd] at h2
        exact .inl ⟨(ok i H2 μ2 G2 (gD.trans g2) hG2 hgd).2 (by omega), Po.now (v := AV.ref G1.length) h2 hG2 (.ref hDn2)⟩
      · rw [if_neg hgd] at h2
        exact h2.elim
theorem se_lc2 {S S1 vs1 : List Nat} {ifs ifs1 : List Expr} {scope : Scope} {own : List (Str × Nat)} (hc : X.calm = true) (hN : X.N.Nodup) (hi : SI X W tg iter mi) (ok : BlkOk X.N X.env.scope scope own) (hS : ∀ j ∈ S, j ∈ own.map (·.2)) (hv : ∀ i ∈ vs1, i ∈ own.map (·.2)) (hS1 : ∀ j ∈ S1, j ∈ vs1)
    (hg : ∀ (s : Shared) (H : Hp) (C : Addr) (cl : List (Str × Addr)) (fp : List Addr), SG (X.blk s H scope (compEnvC scope cl C X.env) fp) WN S tg g)
    (ht : ∀ (s : Shared) (H : Hp) (C : Addr) (cl : List (Str × Addr)) (fp : List Addr), STs (X.blk s H scope (compEnvC scope cl C X.env) fp) WN ifs t)
    (hi1 : ∀ (s : Shared) (H : Hp) (C : Addr) (cl : List (Str × Addr)) (fp : List Addr), SI (X.blk s H scope (compEnvC scope cl C X.env) fp) WN tg1 iter1 mi1)
    (hg1 : ∀ (s : Shared) (H : Hp) (C : Addr) (cl : List (Str × Addr)) (fp : List Addr), SG (X.blk s H scope (compEnvC scope cl C X.env) fp) WN S1 tg1 g1)
    (ht1 : ∀ (s : Shared) (H : Hp) (C : Addr) (cl : List (Str × Addr)) (fp : List Addr), STs (X.blk s H scope (compEnvC scope cl C X.env) fp) WN ifs1 t1)
    (he : ∀ (s : Shared) (H : Hp) (C : Addr) (cl : List (Str × Addr)) (fp : List Addr), SE (X.blk s H scope (compEnvC scope cl C X.env) fp) WN elt m) (hs : ∀ x, foldedSetIterable iter X.env x = pure x := by intro _; rfl) (hs1 : ∀ env x, foldedSetIterable iter1 env x = pure x := by intro _ _; rfl) :
    SE X W (.ListComp elt [⟨tg, iter, ifs, 0⟩, ⟨tg1, iter1, ifs1, 0⟩] scope pos) (mLc2 mi g t mi1 g1 t1 m (own.map (·.2)) vs1) :=
  PE.imp (pe_lc2 (g := tT X.K WN S g) (tt := tG X.K rB WN t) (wi1 := tI X.K WN mi1) (g1 := tT X.K WN S1 g1) (tt1 := tG X.K rB WN t1) (te := tG X.K (rA X.K) WN m) hc hN hi ok hv hg ht hi1 hg1 ht1 he hs hs1) fun σ H Q h => lc2_go hS hS1 h
end
end Vz
namespace EnT
open PySem PySem.Spec PyProof.Rows L2
open AutoSeq1 (wpAny_loadPart')
theorem new_tup (ta : Addr) (vals : Array Value) (nn : Nat) (dd : Option Addr) (sl : Array (Option Value)) :
    Meets (Builtin.«enumerate.__new__» ⟨[.type "enumerate", .ref ta], []⟩) (fun _ R s => s.heap.get? ta = some { cls := .type "tuple", dict := dd, data := .seq vals nn, slots := sl } ∧
      R (.ok (.ret (.ref (s.heap.push { cls := .type "tuple_iterator", data := .fields #[.ref ta, .int 0 0] }).objs.size)))
        { s with heap := (s.heap.push { cls := .type "tuple_iterator", data := .fields #[.ref ta, .int 0 0] }).push { cls := .type "enumerate", data := .fields #[.none, .bool false, .ref s.heap.objs.size, rawInt 0, .none, .none] } }) :=
  .of_wp fun prog w A R s h0 => by
    obtain ⟨hp, g, d, tk, os⟩ := s
    obtain ⟨hl, h⟩ := h0
    have hsub := sub_enumerate
    have isT : Heap.IsTuple (Shared.heap ⟨hp, g, d, tk, os⟩) ta vals := ⟨_, hl, rfl, nn, rfl⟩
    wp_walk using wpAny_loadPart' hl
    refine wpAny_stack_any fun st => wpAny_pure ?_
    split
    · rename_i c _ _ _ _ _
      cases (c == Value.type "enumerate")
      · wp_walk using wpAny_loadPart' hl, wpAny_pyIter_tuple isT
        exact ⟨_, rfl, h⟩
      · wp_walk using wpAny_loadPart' hl, wpAny_pyIter_tuple isT
        exact ⟨_, rfl, h⟩
    · wp_walk using wpAny_loadPart' hl, wpAny_pyIter_tuple isT
      exact ⟨_, rfl, h⟩
section
variable {prog : Program} {w : World} {A : Around} {E : Value → Shared → Prop} {s : Shared}
theorem call_tup {ta : Addr} {vals : Array Value} {Q : Value → Shared → Prop} (ht : s.heap.IsTuple ta vals)
    (k : ∀ g', IsEnum g' (s.heap.objs.size + 1) s.heap.objs.size 0 .none → g'.IsTupleIter s.heap.objs.size ta 0 → (∀ b o, s.heap.get? b = some o → g'.get? b = some o) → Q (.ref (s.heap.objs.size + 1)) { s with heap := g' }) :
    wpAny (model prog w) A (call (.type "enumerate") [.ref ta]) Q E s := by
  obtain ⟨⟨cc, dd, dt, sl⟩, e1, e2, nn, e3⟩ := ht
  obtain rfl : cc = .type "tuple" := e2
  obtain rfl : dt = .seq vals nn := e3
  refine callType_new F.called_enumerate (by decide) (F.typeCall_enumerate_1 _) (F.newCall_enumerate_1 _) (fun ob => F.args_object_init_2 ob _) F.entry_enumerate_new (new_tup ta vals nn dd sl) ⟨e1, ?_⟩
  have z1 : (s.heap.push { cls := .type "tuple_iterator", data := .fields #[.ref ta, .int 0 0] }).objs.size = s.heap.objs.size + 1 := Heap.size_push ..
  show _ ∧ _
  rw [z1]
  have isE : IsEnum ((s.heap.push { cls := .type "tuple_iterator", data := .fields #[.ref ta, .int 0 0] }).push { cls := .type "enumerate", data := .fields #[.none, .bool false, .ref s.heap.objs.size, rawInt 0, .none, .none] }) (s.heap.objs.size + 1) s.heap.objs.size 0 .none := by
    have z2 := Heap.get?_push_size (s.heap.push { cls := .type "tuple_iterator", data := .fields #[.ref ta, .int 0 0] }) (o := { cls := .type "enumerate", data := .fields #[.none, .bool false, .ref s.heap.objs.size, rawInt 0, .none, .none] }) rfl
    rw [z1] at z2
    exact z2
  exact ⟨⟨_, isE, rfl⟩, k _ isE ⟨_, Heap.get?_push_of_some _ (Heap.get?_push_size _ rfl), rfl, rfl⟩ fun b o q => Heap.get?_push_of_some _ (Heap.get?_push_of_some _ q)⟩
end
theorem endT {P : Program} {w : World} {A : Around} {E : Value → Shared → Prop} {s : Shared} {en ti a : Addr} {i : Nat} {vals : Array Value} {c : Int} {old : Value} {Q : Option Value → Shared → Prop} (hh : A.handled = none) (q1 : IsEnum s.heap en ti c old) (q2 : s.heap.IsTupleIter ti a i) (isT : s.heap.IsTuple a vals)
    (hx : vals[i]? = none) (k : ∀ g', Heap.ExtBut ti s.heap g' → Q none { s with heap := g' }) : wpAny (model P w) A (pyNext (.ref en)) Q E s := by
  have D : Draws P w A.in1 ti [ti, a] i (fun _ _ => False) (fun j h => j = i ∧ h.IsTupleIter ti a i ∧ h.IsTuple a vals) :=
    { live := fun _ _ st => let ⟨o, ho, _⟩ := st.2.1; ⟨o, ho⟩
      frame := fun _ _ _ st hk => ⟨st.1, st.2.1.at fun o q => hk ti (by simp) o q, st.2.2.at fun o q => hk a (by simp) o q⟩
      item := fun j s Q E hj st _ => absurd st.1 (Nat.ne_of_lt hj)
      done := fun s Q E st hE => wpAny_nextOf_tuple_end (show A.in1.handled = none from hh) st.2.1 st.2.2 hx hE }
  exact wpAny_pyNext_enum_endD D q1 ⟨rfl, q2, isT⟩ k
/-- the tuple at a, each item in a new pair -/
def It2 (K : PySem.W.Frag) (a : Addr) : It :=
  ⟨fun i H => ∃ (ys : List V) (y : V), SqT K H a ys ∧ ys[i]? = some y, fun i H v H' => ∃ T y, v = .ref T ∧ H T = none ∧ H' = upd H T (.tup [.int (i : Nat), y]) ∧ ∀ ys, SqT K H a ys → ys[i]? = some y, fun i H => ∃ ys : List V, SqT K H a ys ∧ ys.length ≤ i⟩
theorem turn2 {P : Program} {w : World} {K : PySem.W.Frag} {elts : List Expr} {kk : Nat} {tpos : Pos} (a en ti : Addr) :
    Turn P w K (.Tuple elts kk tpos) (It2 K a) [en, ti] en (fun i h => (∃ old, IsEnum h en ti ((i : Nat) : Int) old) ∧ h.IsTupleIter ti a i ∧ en ≠ ti ∧ a ≠ ti ∧ a ≠ en) where
  mem := by simp
  obj := fun i h st b hb => by
    obtain ⟨⟨old, q1⟩, ⟨o, q2, _, q3⟩, _⟩ := st
    rcases (show b = en ∨ b = ti by simpa using hb) with z | z
    · subst z
      exact ⟨_, q1, fun v q => nomatch q⟩
    · subst z
      exact ⟨o, q2, fun v q => by rw [q3] at q; cases q⟩
  keep := fun i h h' st k => let ⟨⟨old, q1⟩, q2, q3⟩ := st; ⟨⟨old, k en (by simp) _ q1⟩, q2.at fun o q => k ti (by simp) o q, q3⟩
  item := by
    intro X hP hw hK hc i pins s σ H E I hf st hgo
    subst hP hw hK
    obtain ⟨⟨old, q1⟩, q2, n1, n2, n3⟩ := st
    obtain ⟨ys, y, hys, hy⟩ := hgo
    obtain ⟨its, rv, isT, _⟩ := I.tuple hys
    obtain ⟨u, hu, ru⟩ := rv.get hy
    have l1 : en < s.heap.objs.size := Heap.lt_size q1
    have l2 : ti < s.heap.objs.size := let ⟨_, q, _⟩ := q2; Heap.lt_size q
    have hui : its.toArray[i]? = some u := by simpa using hu
    refine wpAny_pyNext_enum_itemD (Draws.tuple (A := X.A.in1) (show X.A.in1.handled = none from I.ok.hd hc) ti a n2 its.toArray) q1 ⟨q2, isT⟩ (Array.getElem?_eq_some_iff.mp hui).1 n1 (by simp [n1, Ne.symm n3]) fun x g' tk hx out sti hT hsz hk => ?_
    obtain rfl : x = u := Option.some.inj (hx.symm.trans hui)
    refine ⟨_, rfl, wpAny_letOwnedTupleGo_enum (s := { s with heap := g', toks := tk + 1 }) out fun g2 isE sb => ?_⟩
    have hT2 : g2.get? s.heap.objs.size = some { cls := .type "tuple", data := .seq #[.int i tk, x] } := (sb.2 _ (Nat.ne_of_gt l1)).trans hT
    have made : ObjOk X.prog X.w (upd H s.heap.objs.size (.tup [.int (i : Nat), y])) g2 s.heap.objs.size (.tup [.int (i : Nat), y]) :=
      ⟨by show 2 ≤ sizeLine; decide, [.int i tk, x], .cons ⟨_, rfl⟩ (.cons ru .nil), ⟨_, hT2, rfl, _, rfl⟩⟩
    have I1 : Inv X pins σ (upd H s.heap.objs.size (.tup [.int (i : Nat), y])) { s with heap := g2, toks := tk + 1 } :=
      I.turnedNew (t' := tk + 1) (ch := [en, ti]) (fun b ob hb q => (sb.2 b fun z => hb (by simp [z])).trans (hk b ob (fun z => hb (by simp [z])) (fun z => hb (by simp [z])) q)) hf (Nat.le_refl _) made
    refine ⟨.ref s.heap.objs.size, _, I1, rfl, ⟨_, y, rfl, I.hok.fresh (Nat.le_refl _), rfl, fun zs hz => by rw [I.tuple_inj hz hys]; exact hy⟩, ⟨⟨x, ?_⟩, sti.1.at fun o q => (sb.2 ti (Ne.symm n1)).trans q, n1, n2, n3⟩, fun b hb => ?_⟩
    · rw [show ((i + 1 : Nat) : Int) = (i : Int) + 1 by omega]
      exact isE
    · have hb' : b < s.heap.objs.size := by
        rcases (show b = en ∨ b = ti by simpa using hb) with z | z
        · rw [z]
          exact l1
        · rw [z]
          exact l2
      rw [upd_ne (Nat.ne_of_lt hb')]
      exact (hf b hb).1
  done := by
    intro X hP hw hK hc i pins s σ H E I hf st hst
    subst hP hw hK
    obtain ⟨⟨old, q1⟩, q2, n1, n2, n3⟩ := st
    obtain ⟨ys, hys, hy⟩ := hst
    obtain ⟨its, rv, isT, _⟩ := I.tuple hys
    obtain ⟨f0, f1, f2, f3, f4, f5⟩ := hf ti (by simp)
    have hl := rv.length
    exact endT (I.ok.hd hc) q1 q2 isT (by simp; omega) fun g' eb => ⟨rfl, I.turned (t' := s.toks) (fun b o hb q => eb b o hb q) f0 f1 f3 f4 f5⟩
  self := fun A i s Q E st h => let ⟨⟨_, q1⟩, _⟩ := st; wpAny_pyIter_enum q1 h
def iEn2 (K : PySem.W.Frag) (ta : TA) : TI := fun σ H R => ta σ H fun vs H1 => ∃ a xs, vs = [.ref a] ∧ ((SqL K H1 a xs ∧ R (Ite K a) H1) ∨ (SqT K H1 a xs ∧ R (It2 K a) H1))
theorem pi_en2 {X : Cx} {e : Expr} {ta : TA} {p pos tpos : Pos} {elts : List Expr} {kk : Nat} (hg : Gl X "enumerate") (hm : X.mg "enumerate" = none) (ha : PA X [e] ta) (hs : starEach [e] X.env = [(false, eval e X.env)] := by rfl) :
    PI X (.Tuple elts kk tpos) (.Call (.Name "enumerate" p) [e] [] pos) (iEn2 X.K ta) := by
  refine ⟨fun pins s σ H R I h => ?_⟩
  refine Call_ (ld_blt I hg hm boot_enumerate (PyProof.Rows.callWith_type1 (thn (ha.run pos pins s σ H _ I h) fun us s1 ⟨vs, H1, I1, r1, q1⟩ => ?_) hs rfl))
  obtain ⟨a, xs, rfl, q⟩ := q1
  cases r1 with
  | cons r rr =>
    cases rr
    cases r
    have fin : ∀ (g' : Heap) (J : It) (St : Nat → Heap → Prop), IsEnum g' (s1.heap.objs.size + 1) s1.heap.objs.size 0 .none → (∀ b o, s1.heap.get? b = some o → g'.get? b = some o) →
        Turn X.prog X.w X.K (.Tuple elts kk tpos) J [s1.heap.objs.size + 1, s1.heap.objs.size] (s1.heap.objs.size + 1) St → St 0 g' → R J H1 → wpAny (model X.prog X.w) X.A (pyIter (.ref (s1.heap.objs.size + 1))) (PIE X pins σ (.Tuple elts kk tpos) R) X.xe { s1 with heap := g' } := fun g' J St isE hk T st hR => by
      have I2 : Inv X pins σ H1 { s1 with heap := g' } := I1.kept (t' := s1.toks) hk
      refine wpAny_pyIter_enum isE ⟨s1.heap.objs.size + 1, [s1.heap.objs.size + 1, s1.heap.objs.size], _, _, H1, rfl, I2, T, st, fun b hb => ?_, hR⟩
      have hle : s1.heap.objs.size ≤ b := by
        rcases (show b = s1.heap.objs.size + 1 ∨ b = s1.heap.objs.size by simpa using hb) with z | z
        · rw [z]
          exact Nat.le_succ _
        · exact Nat.le_of_eq z.symm
      exact I1.fpOk hle (I1.hok.fresh hle)
    rcases q with ⟨hq, hR⟩ | ⟨hq, hR⟩
    · obtain ⟨its, rv, isL, _⟩ := I1.list hq
      exact call_enumerate_list isL.isList fun g' isE hit _ hk => fin g' _ _ isE hk (turn_enum a (s1.heap.objs.size + 1) s1.heap.objs.size) ⟨⟨.none, isE⟩, hit, Nat.succ_ne_self _⟩ hR
    · obtain ⟨its, rv, isT, _⟩ := I1.tuple hq
      have la : a < s1.heap.objs.size := let ⟨_, z, _⟩ := isT; Heap.lt_size z
      exact call_tup isT fun g' isE hit hk => fin g' _ _ isE hk (turn2 a (s1.heap.objs.size + 1) s1.heap.objs.size) ⟨⟨.none, isE⟩, hit, Nat.succ_ne_self _, Nat.ne_of_lt la, Nat.ne_of_lt (Nat.lt_succ_of_lt la)⟩ hR
end EnT
namespace Vz
open PySem L2
def zipE (k : Wk) : Wk := ((List.range k.1.length).zipWith (fun i v => AV.tup [.int (i : Nat), v]) k.1, k.2)
theorem zipE_get {k : Wk} {i : Nat} : (zipE k).1[i]? = k.1[i]?.map fun v => AV.tup [.int (i : Nat), v] := by
  unfold zipE
  rw [List.getElem?_zipWith]
  by_cases h : i < k.1.length
  · rw [List.getElem?_range h, List.getElem?_eq_getElem h]
    rfl
  · rw [List.getElem?_eq_none (by simpa using h), List.getElem?_eq_none (by simpa using h)]
    rfl
theorem zipE_len {k : Wk} : (zipE k).1.length = k.1.length := by
  unfold zipE
  simp
/-- what enumerate walks -/
def enOf (G : Hs) : AV → Option Wk
  | .str _ => none
  | v => (wkOf G v).map zipE
def mEn (m : ME) : MI := fun ρ G => (m ρ G).bind fun v G1 => match enOf G1 v with
  | some k => .ok k G1
  | none => .stuck
section
variable {X : Cx} {W : WX} {e : Expr} {m : ME} {pos p tpos : Pos} {elts : List Expr} {kk : Nat} {K : PySem.W.Frag}
theorem itOk_en {J : It} {k : Wk} {H1 : Hp} {μ1 : Mu} {Sq : Hp → List V → Prop} (hgo : ∀ i H xs x, Sq H xs → xs[i]? = some x → J.go i H) (hst : ∀ i H xs, Sq H xs → xs.length ≤ i → J.stop i H)
    (hy : ∀ i H v H', J.yld i H v H' → ∃ T x, v = .ref T ∧ H T = none ∧ H' = upd H T (.tup [.int (i : Nat), x]) ∧ ∀ xs, Sq H xs → xs[i]? = some x)
    (h : ∀ H μ G, Gr H1 μ1 H μ → RH K H μ G → gdOk k.2 G → ∃ vs, Sq H vs ∧ RAs K H μ k.1 vs) : ItOk K J (zipE k) H1 μ1 := fun i H μ G g hG hgd => by
  obtain ⟨vs, hs, rs⟩ := h H μ G g hG hgd
  refine ⟨fun v hv => ?_, fun hi => hst i H vs hs (by rw [← rs.length]; rw [zipE_len] at hi; exact hi)⟩
  rw [zipE_get] at hv
  obtain ⟨u, hu, rfl⟩ := Option.map_eq_some_iff.mp hv
  obtain ⟨y, hyv, r⟩ := rs.get' hu
  refine ⟨hgo i H vs y hs hyv, fun x H' q => ?_⟩
  obtain ⟨T, z, rfl, hT, rfl, hz⟩ := hy i H x H' q
  have := hz vs hs
  rw [hyv] at this
  cases this
  have gn : Gr H μ (upd H T (.tup [.int (i : Nat), y])) μ := Gr.new hT
  exact ⟨gn, hG.new hT, .tup upd_same (.cons (.int _) (.cons (r.gr gn) .nil))⟩
theorem en_l {a : Addr} {k : Wk} {H1 : Hp} {μ1 : Mu} (h : ∀ H μ G, Gr H1 μ1 H μ → RH K H μ G → gdOk k.2 G → ∃ vs, SqL K H a vs ∧ RAs K H μ k.1 vs) : ItOk K (Ite K a) (zipE k) H1 μ1 :=
  itOk_en (Sq := fun H xs => SqL K H a xs) (fun i H xs x h1 h2 => ⟨xs, x, h1, h2⟩) (fun i H xs h1 h2 => ⟨xs, h1, h2⟩) (fun i H v H' q => q) h
theorem en_t {a : Addr} {k : Wk} {H1 : Hp} {μ1 : Mu} (h : ∀ H μ G, Gr H1 μ1 H μ → RH K H μ G → gdOk k.2 G → ∃ vs, SqT K H a vs ∧ RAs K H μ k.1 vs) : ItOk K (EnT.It2 K a) (zipE k) H1 μ1 :=
  itOk_en (Sq := fun H xs => SqT K H a xs) (fun i H xs x h1 h2 => ⟨xs, x, h1, h2⟩) (fun i H xs h1 h2 => ⟨xs, h1, h2⟩) (fun i H v H' q => q) h
theorem si_enum (hg : Gl X "enumerate") (hm : X.mg "enumerate" = none) (ha : SE X W e m) (hs : starEach [e] X.env = [(false, eval e X.env)] := by rfl) : SI X W (.Tuple elts kk tpos) (.Call (.Name "enumerate" p) [e] [] pos) (mEn m) := by
  refine PI.imp (EnT.pi_en2 hg hm (pa_cons ha pa_nil hs) hs) fun σ H Q ⟨ρ, μ, G, hσ, hG, h⟩ => tI.of hσ hG h (fun v G1 H1 μ1 x k g hG1 r hk q => ?_) fun v G1 => ?_
  · cases r with
    | tup h rs => cases hk; exact ⟨_, _, rfl, .inr ⟨SqT.of h, q _ (en_t fun H μ G g _ _ => ⟨_, SqT.of (g.tup _ _ h), rs.gr g⟩)⟩⟩
    | con h rs => cases hk; exact ⟨_, _, rfl, .inr ⟨h.sq, q _ (en_t fun H μ G g _ _ => ⟨_, h.sq, rs.gr g⟩)⟩⟩
    | lk h rs => cases hk; exact ⟨_, _, rfl, .inl ⟨h.sq, q _ (en_l fun H μ G g _ _ => ⟨_, (h.gr g).sq, rs.gr g⟩)⟩⟩
    | ls h rs => cases hk; exact ⟨_, _, rfl, .inl ⟨h.sq, q _ (en_l fun H μ G g _ _ => ⟨_, (h.gr g).sq, rs.gr g⟩)⟩⟩
    | ref h =>
      rename_i n a'
      obtain ⟨ob, ho, ro⟩ := hG1.obj h
      simp only [enOf, wkOf, ho] at hk
      cases ob with
      | lst xs =>
        cases hk
        obtain ⟨vs, h1, rs⟩ := ro
        refine ⟨_, _, rfl, .inl ⟨SqL.of h1, q _ (en_l fun H μ G g hG hgd => ?_)⟩⟩
        obtain ⟨vs', h2, rs'⟩ := hG.at_ n a' _ (h.gr g) hgd
        exact ⟨vs', SqL.of h2, rs'⟩
      | _ => cases hk
    | _ => cases hk
  · cases e : enOf G1 v with
    | none => exact .inr rfl
    | some k => exact .inl ⟨k, rfl⟩
end
end Vz
namespace Vz
open PySem L2
def AllSh1 (K : PySem.W.Frag) (fd : FuncData) (ps : List Str) : List Shp → Prop
  | [] => True
  | s :: r => Sh K fd ps (s.1 + 1) s.2.1 s.2.2 ∧ AllSh1 K fd ps r
theorem shs_all1 {K : PySem.W.Frag} {fd : FuncData} {ps : List Str} : ∀ {l : List Shp}, AllSh1 K fd ps l → ∀ s ∈ l, Sh K fd ps (s.1 + 1) s.2.1 s.2.2
  | [], _, _, h => nomatch h
  | a :: r, ⟨h1, h2⟩, s, h => by
    rcases List.mem_cons.mp h with e | h
    · rw [e]; exact h1
    · exact shs_all1 h2 s h
end Vz
namespace Vz
open PySem L2
def relab (scope sc0 : Scope) : Scope :=
  { scope with names := scope.names.map fun (n, k) => if (k == .free && sc0.kind == .function && sc0.names.lookup n == some .cell) then (n, .cell) else (n, k) }
theorem relab_eq (scope : Scope) (env : Env) : relabel scope env = relab scope env.scope := rfl
end Vz
namespace Vz
open PySem L2
section
variable {QV : AV → Hs → Prop} {QB : Bool → Hs → Prop} {E : XQ} {G G1 : Hs} {ρ : En} {D : SP} {b t s n : Nat}
theorem Kp.setN {o : AO} (h : Kp b G G1) (l : G.length ≤ n) : Kp b G (G1.set n o) := ⟨by rw [List.length_set]; exact h.le, fun m hb hm => by rw [List.getElem?_set_ne (by omega)]; exact h.at_ m hb hm⟩
theorem Kp.up {c : Nat} (h : Kp 0 G G1) : Kp c G G1 := h.mono (Nat.zero_le _)
theorem Dr.low {G' : Hs} (h : Dr b t s G) (l : G.length ≤ G'.length) (e : ∀ m, m < b → G'[m]? = G[m]?) : Dr b t s G' := by
  obtain ⟨gl, cl, gs, cells, rest, turn, seed, h⟩ := h
  exact ⟨gl, cl, gs, cells, rest, turn, seed, h.kp l e⟩
theorem Dr.setN {o : AO} (h : Dr b t s G) (l : b ≤ n) : Dr b t s (G.set n o) := h.low (by simp) fun m hm => List.getElem?_set_ne (by omega)
theorem Dr.app {o : List AO} (h : Dr b t s G) : Dr b t s (G ++ o) := h.kp (Kp.app 0 _ _)
theorem wp_fld {cs : List Str} {f c : Str} {fs : List (Str × AV)} {v : AV} (h : G[n]? = some (.ins c fs)) (hc : c ∈ cs) (e : fs.lookup f = some v) : (fFld cs f (.ref n) G).wp QV E = QV v G := by
  simp only [fFld, h, hc, if_true, e, wp_ok]
@[simp] theorem wp_fst (cs : List Str) (f : Str) (mo mv : ME) : (mFst cs f mo mv ρ G).wp D = (mv ρ G).wp (fun u G => (mo ρ G).wp (fun v G => (fSt cs f v u G).wp (fun _ G => D.nx ρ G) D.ex) D.ex) D.ex := by
  unfold mFst
  simp only [wp_toS]
  rfl
theorem st_wp {QU : Unit → Hs → Prop} {cs : List Str} {f c : Str} {fs : List (Str × AV)} {u : AV} (h : G[n]? = some (.ins c fs)) (hc : c ∈ cs) (hl : fs.length < 1000) : (fSt cs f (.ref n) u G).wp QU E = QU () (G.set n (.ins c (putFA f u fs))) := by
  simp only [fSt, h, hc, hl, and_self, if_true, wp_ok]
theorem wp_mkR (r : R AV) (n : Nat) : (mkR r n).wp QV E = r.wp (fun v G => v = .non ∧ QV (.ref n) G) E := by
  cases r with
  | ok v G => cases v <;> simp [mkR, R.wp]
  | exc c d G => rfl
  | stuck => rfl
@[simp] theorem wp_make (cn : Str) (N n m : Nat) (gA : List AV → List AV → List AV) (F : List AV → Hs → R AV) (ms mk : MEs) : (mMake cn N n m gA F ms mk ρ G).wp QV E =
    (ms ρ G).wp (fun xs G => (mk ρ G).wp (fun ys G => (xs.length = n ∧ ys.length = m ∧ (gA (.ref G.length :: xs) ys).length = N) ∧ (F (gA (.ref G.length :: xs) ys) (G ++ [.ins cn []])).wp (fun v G1 => v = .non ∧ QV (.ref G.length) G1) E) E) E := by
  unfold mMake
  simp only [wp_bind]
  congr 1
  funext xs G
  congr 1
  funext ys G
  rw [wp_guard, wp_mkR]
@[simp] theorem wp_meth (cn mn : Str) (N n m : Nat) (gA : List AV → List AV → List AV) (F : List AV → Hs → R AV) (mo : ME) (ms mk : MEs) : (mMeth cn mn N n m gA F mo ms mk ρ G).wp QV E =
    (mo ρ G).wp (fun v G => insOf cn mn G v = true ∧ (ms ρ G).wp (fun xs G => (mk ρ G).wp (fun ys G => (xs.length = n ∧ ys.length = m ∧ (gA (v :: xs) ys).length = N) ∧ (F (gA (v :: xs) ys) G).wp QV E) E) E) E := by
  unfold mMeth
  rw [wp_bind]
  congr 1
  funext v G
  rw [wp_guard]
  simp only [wp_bind, wp_guard]
@[simp] theorem wp_aug (i : Nat) (f : AV → AV → Hs → R AV) (m : ME) : (mAug i f m ρ G).wp D = (match ρ[i]? with
  | some (some v) => (m ρ G).wp (fun w G => (f v w G).wp (fun u G => D.nx (ρ.set i (some u)) G) D.ex) D.ex
  | _ => False) := by
  unfold mAug
  cases ρ[i]? with
  | none => rfl
  | some o =>
    cases o with
    | none => rfl
    | some v =>
      simp only [wp_toS]
      rfl
@[simp] theorem wp_en {QW : Wk → Hs → Prop} (m : ME) : (mEn m ρ G).wp QW E = (m ρ G).wp (fun v G => match enOf G v with
  | some k => QW k G
  | none => False) E := by
  unfold mEn
  rw [wp_bind]
  congr 1
  funext v G
  cases enOf G v <;> rfl
theorem wp_appL {xs : List AV} {y : AV} (h : G[n]? = some (.lst xs)) : (fApp (.ref n) [y] G).wp QV E = (xs.length < szl ∧ QV .non (G.set n (.lst (xs ++ [y])))) := by
  simp only [fApp, h]
  exact wp_guard _
theorem isL_L {xs : List AV} (h : G[n]? = some (.lst xs)) : isL (.ref n) G = true := by
  simp only [isL, lstOf, h]
  rfl
theorem tuple_T {xs : List AV} : (fTuple [.tup xs] G).wp QV E = QV (.tup xs) G := rfl
theorem len_T {xs : List AV} : (fLen [.tup xs] G).wp QV E = QV (.int xs.length) G := rfl
theorem wp_ixT {xs : List AV} {i : Int} {w : AV} (h0 : 0 ≤ i) (h1 : i < xs.length) (e : xs[i.toNat]? = some w) : (fIx (.tup xs) (.int i) G).wp QV E = QV w G := by
  have e1 : seqOf G (.tup xs) = some xs := rfl
  simp only [fIx, e1, atI_in h0 h1, e, wp_ok]
theorem ixT0 {a : AV} {r : List AV} : (fIx (.tup (a :: r)) (.int 0) G).wp QV E = QV a G := wp_ixT (by decide) (by simp only [List.length_cons]; omega) rfl
theorem ixT1 {a0 a : AV} {r : List AV} : (fIx (.tup (a0 :: a :: r)) (.int 1) G).wp QV E = QV a G := wp_ixT (by decide) (by simp only [List.length_cons]; omega) rfl
theorem ixT2 {a0 a1 a : AV} {r : List AV} : (fIx (.tup (a0 :: a1 :: a :: r)) (.int 2) G).wp QV E = QV a G := wp_ixT (by decide) (by simp only [List.length_cons]; omega) rfl
theorem ixT3 {a0 a1 a2 a : AV} {r : List AV} : (fIx (.tup (a0 :: a1 :: a2 :: a :: r)) (.int 3) G).wp QV E = QV a G := wp_ixT (by decide) (by simp only [List.length_cons]; omega) rfl
theorem ixT4 {a0 a1 a2 a3 a : AV} {r : List AV} : (fIx (.tup (a0 :: a1 :: a2 :: a3 :: a :: r)) (.int 4) G).wp QV E = QV a G := wp_ixT (by decide) (by simp only [List.length_cons]; omega) rfl
theorem ixT5 {a0 a1 a2 a3 a4 a : AV} {r : List AV} : (fIx (.tup (a0 :: a1 :: a2 :: a3 :: a4 :: a :: r)) (.int 5) G).wp QV E = QV a G := wp_ixT (by decide) (by simp only [List.length_cons]; omega) rfl
theorem ixT6 {a0 a1 a2 a3 a4 a5 a : AV} {r : List AV} : (fIx (.tup (a0 :: a1 :: a2 :: a3 :: a4 :: a5 :: a :: r)) (.int 6) G).wp QV E = QV a G := wp_ixT (by decide) (by simp only [List.length_cons]; omega) rfl
/-- all but the object n stand as they stood -/
structure FrN (n : Nat) (G G' : Hs) : Prop where
  le : G.length ≤ G'.length
  at_ : ∀ m, m ≠ n → m < G.length → G'[m]? = G[m]?
theorem FrN.refl : FrN n G G := ⟨Nat.le_refl _, fun _ _ _ => rfl⟩
theorem FrN.app {o : List AO} {G' : Hs} (h : FrN n G G') : FrN n G (G' ++ o) := ⟨by rw [List.length_append]; have := h.le; omega, fun m hm hl => (List.getElem?_append_left (Nat.lt_of_lt_of_le hl h.le)).trans (h.at_ m hm hl)⟩
theorem FrN.set {o : AO} {G' : Hs} (h : FrN n G G') : FrN n G (G'.set n o) := ⟨by rw [List.length_set]; exact h.le, fun m hm hl => (List.getElem?_set_ne fun e => hm e.symm).trans (h.at_ m hm hl)⟩
theorem FrN.kp {G' : Hs} (h : FrN n (G ++ [o]) G') (e : n = G.length) : Kp 0 G G' := ⟨by have := h.le; rw [List.length_append] at this; omega, fun m _ hm => (h.at_ m (by omega) (by rw [List.length_append]; omega)).trans (List.getElem?_append_left hm)⟩
theorem lc2F_pure {gd : Option (Nat × List AV)} {g g1 : MG} {t t1 : MB} {mi1 : MI} {m : ME} {own1 : List Nat} {w1 : AV → List AV} {y : AV → AV → AV} : ∀ (vs acc : List AV), (∀ acc, gdOk gd (G ++ [.lst acc])) → acc.length + (vs.flatMap w1).length ≤ szl →
    (∀ v ∈ vs, ∀ acc, ∃ ρ1 gd1, g v ρ (G ++ [.lst acc]) = .ok ρ1 (G ++ [.lst acc]) ∧ t ρ1 (G ++ [.lst acc]) = .ok true (G ++ [.lst acc]) ∧ mi1 ρ1 (G ++ [.lst acc]) = .ok (w1 v, gd1) (G ++ [.lst acc]) ∧ (∀ acc, gdOk gd1 (G ++ [.lst acc])) ∧
      ∀ u ∈ w1 v, ∀ acc, ∃ ρ2, g1 u (wipeA ρ1 own1) (G ++ [.lst acc]) = .ok ρ2 (G ++ [.lst acc]) ∧ t1 ρ2 (G ++ [.lst acc]) = .ok true (G ++ [.lst acc]) ∧ m ρ2 (G ++ [.lst acc]) = .ok (y v u) (G ++ [.lst acc])) →
    lc2F gd g t mi1 g1 t1 own1 m G.length ρ vs (G ++ [.lst acc]) = .ok () (G ++ [.lst (acc ++ vs.flatMap fun v => (w1 v).map (y v))])
  | [], acc, hg, hl, hb => by
    simp only [lc2F]
    rw [if_pos (hg acc)]
    simp
  | v :: vs, acc, hg, hl, hb => by
    obtain ⟨ρ1, gd1, e1, e2, e3, e4, e5⟩ := hb v (List.mem_cons_self ..) acc
    simp only [lc2F]
    rw [if_pos (hg acc), e1]
    simp only [e2, e3]
    rw [List.flatMap_cons, List.length_append] at hl
    have e6 := lcF_pure (G := G) (ρ := wipeA ρ1 own1) (gd := gd1) (g := g1) (t := t1) (m := m) (p := fun _ => true) (y := y v) (w1 v) acc e4 (by omega) fun u hu acc => by
      obtain ⟨ρ2, q1, q2, q3⟩ := e5 u hu acc
      exact ⟨ρ2, q1, q2, fun _ => q3⟩
    have hf : (w1 v).filter (fun _ => true) = w1 v := List.filter_eq_self.mpr fun _ _ => rfl
    rw [hf] at e6
    rw [e6]
    simp only
    rw [lc2F_pure vs _ hg (by rw [List.length_append, List.length_map]; omega) fun v hv => hb v (List.mem_cons_of_mem _ hv), List.flatMap_cons, List.append_assoc]
theorem wp_lc2P {mi mi1 : MI} {g g1 : MG} {t t1 : MB} {m : ME} {own own1 : List Nat} (w1 : AV → List AV) (y : AV → AV → AV) (h : (mi ρ G).wp (fun k G => (k.1.flatMap w1).length ≤ szl ∧ gdOk k.2 G ∧
      (∀ v ∈ k.1, ∀ acc, ∃ ρ1 gd1, g v (wipeA ρ own) (G ++ [.lst acc]) = .ok ρ1 (G ++ [.lst acc]) ∧ t ρ1 (G ++ [.lst acc]) = .ok true (G ++ [.lst acc]) ∧ mi1 ρ1 (G ++ [.lst acc]) = .ok (w1 v, gd1) (G ++ [.lst acc]) ∧ (∀ acc, gdOk gd1 (G ++ [.lst acc])) ∧
        ∀ u ∈ w1 v, ∀ acc, ∃ ρ2, g1 u (wipeA ρ1 own1) (G ++ [.lst acc]) = .ok ρ2 (G ++ [.lst acc]) ∧ t1 ρ2 (G ++ [.lst acc]) = .ok true (G ++ [.lst acc]) ∧ m ρ2 (G ++ [.lst acc]) = .ok (y v u) (G ++ [.lst acc])) ∧
      QV (.ref G.length) (G ++ [.lst (k.1.flatMap fun v => (w1 v).map (y v))])) E) : (mLc2 mi g t mi1 g1 t1 m own own1 ρ G).wp QV E := by
  unfold mLc2
  rw [wp_bind]
  refine h.mono (fun k G ⟨hl, hg, hb, hq⟩ => ?_) fun _ _ _ x => x
  have hg' : ∀ acc, gdOk k.2 (G ++ [.lst acc]) := fun acc => by
    cases e : k.2 with
    | none => exact True.intro
    | some q =>
      obtain ⟨n, xs⟩ := q
      rw [e] at hg
      exact (List.getElem?_append_left (List.getElem?_eq_some_iff.mp hg).1).trans hg
  rw [lc2F_pure k.1 [] hg' (by simpa using hl) hb]
  exact hq
theorem rg1_ok {m : ME} {n : Int} {G0 : Hs} (h : m ρ G = .ok (.int n) G0) (h0 : -(2 ^ 62) ≤ n) (h1 : n < 2 ^ 62) : mRg1 m ρ G = .ok (rgA 0 n, none) G0 := by
  unfold mRg1
  rw [h]
  exact if_pos ⟨h0, h1⟩
theorem wk_ok {m : ME} {v : AV} {k : Wk} {G0 : Hs} (h : m ρ G = .ok v G0) (e : wkOf G0 v = some k) : mWk m ρ G = .ok k G0 := by
  unfold mWk
  rw [h]
  show (match wkOf G0 v with
    | some k => R.ok k G0
    | none => .stuck) = _
  rw [e]
theorem en_ok {m : ME} {v : AV} {k : Wk} {G0 : Hs} (h : m ρ G = .ok v G0) (e : enOf G0 v = some k) : mEn m ρ G = .ok k G0 := by
  unfold mEn
  rw [h]
  show (match enOf G0 v with
    | some k => R.ok k G0
    | none => .stuck) = _
  rw [e]
theorem wp_forK {mi : MI} {g : MG} {b : MS} {k : Wk} {G0 : Hs} (hk : mi ρ G = .ok k G0) (I : Nat → En → Hs → Prop) (h0 : I 0 ρ G0) (hg : ∀ j ρ G, j ≤ k.1.length → I j ρ G → gdOk k.2 G)
    (hs : ∀ j v ρ G, k.1[j]? = some v → I j ρ G → MG.wp (g v ρ G) { D with nx := fun ρ1 G1 => (b ρ1 G1).wp { nx := I (j + 1), rt := D.rt, bk := D.nx, ct := I (j + 1), ex := D.ex } })
    (he : ∀ ρ G, I k.1.length ρ G → D.nx ρ G) : (mFor mi g b ρ G).wp D := by
  refine wp_for I ?_
  rw [hk]
  exact ⟨h0, hg, hs, he⟩
theorem wp_lcK {mi : MI} {g : MG} {t : MB} {m : ME} {own : List Nat} {k : Wk} {G0 : Hs} (hk : mi ρ G = .ok k G0) (I : Nat → List AV → Hs → Prop) (h0 : I 0 [] (G0 ++ [.lst []])) (hg : ∀ j acc G, j ≤ k.1.length → I j acc G → gdOk k.2 G)
    (hs : ∀ j v acc G, k.1[j]? = some v → I j acc G → G[G0.length]? = some (.lst acc) → ∃ ρ1 G1, g v (wipeA ρ own) G = .ok ρ1 G1 ∧ (t ρ1 G1).wp (fun b G2 => if b = true then
        (m ρ1 G2).wp (fun y G3 => G3[G0.length]? = some (.lst acc) ∧ acc.length < szl ∧ I (j + 1) (acc ++ [y]) (G3.set G0.length (.lst (acc ++ [y])))) noX else G2[G0.length]? = some (.lst acc) ∧ I (j + 1) acc G2) noX)
    (he : ∀ acc G, G[G0.length]? = some (.lst acc) → I k.1.length acc G → QV (.ref G0.length) G) : (mLc mi g t m own ρ G).wp QV E := by
  refine wp_lc I ?_
  rw [hk]
  exact ⟨h0, hg, hs, he⟩
theorem wp_lc2PK {mi mi1 : MI} {g g1 : MG} {t t1 : MB} {m : ME} {own own1 : List Nat} {k : Wk} {G0 : Hs} (hk : mi ρ G = .ok k G0) (w1 : AV → List AV) (y : AV → AV → AV) (hl : (k.1.flatMap w1).length ≤ szl) (hg : gdOk k.2 G0)
    (hb : ∀ v ∈ k.1, ∀ acc, ∃ ρ1 gd1, g v (wipeA ρ own) (G0 ++ [.lst acc]) = .ok ρ1 (G0 ++ [.lst acc]) ∧ t ρ1 (G0 ++ [.lst acc]) = .ok true (G0 ++ [.lst acc]) ∧ mi1 ρ1 (G0 ++ [.lst acc]) = .ok (w1 v, gd1) (G0 ++ [.lst acc]) ∧ (∀ acc, gdOk gd1 (G0 ++ [.lst acc])) ∧
        ∀ u ∈ w1 v, ∀ acc, ∃ ρ2, g1 u (wipeA ρ1 own1) (G0 ++ [.lst acc]) = .ok ρ2 (G0 ++ [.lst acc]) ∧ t1 ρ2 (G0 ++ [.lst acc]) = .ok true (G0 ++ [.lst acc]) ∧ m ρ2 (G0 ++ [.lst acc]) = .ok (y v u) (G0 ++ [.lst acc]))
    (hq : QV (.ref G0.length) (G0 ++ [.lst (k.1.flatMap fun v => (w1 v).map (y v))])) : (mLc2 mi g t mi1 g1 t1 m own own1 ρ G).wp QV E := by
  refine wp_lc2P w1 y ?_
  rw [hk]
  exact ⟨hl, hg, hb, hq⟩
theorem all_true : ∀ n : Nat, (List.replicate n true).all id = true
  | 0 => rfl
  | n + 1 => by rw [List.replicate_succ, List.all_cons, all_true n]; rfl
end
end Vz
namespace Vz
open PySem L2
section
variable {X : Cx} {W : WX} {a b c e : Expr} {es : List Expr} {m ma mb : ME} {ms : MEs} {pos : Pos} {s : Stmt} {st : MS}
/-- what e tells is not written any more -/
def mFz (m : ME) : ME := fun ρ G => (m ρ G).bind fun v G1 => match v with
  | .ref n => match G1[n]? with
    | some o => match fzV o with
      | some u => .ok u (G1.set n .gone)
      | none => .stuck
    | none => .stuck
  | v => .ok v G1
theorem fz_aft {K : PySem.W.Frag} {σ : St} {H : Hp} {μ : Mu} {G : Hs} {v : AV} {Q : VK} (h : Po K (rA K) W σ H μ ((R.ok v G).bind fun v G1 => match v with
  | .ref n => match G1[n]? with
    | some o => match fzV o with
      | some u => .ok u (G1.set n .gone)
      | none => .stuck
    | none => .stuck
  | v => .ok v G1) Q) : Po K (rA K) W σ H μ (.ok v G) Q := by
  cases v with
  | ref n =>
    simp only [R.bind_ok] at h
    cases e1 : G[n]? with
    | none => rw [e1] at h; exact h.elim
    | some o =>
      rw [e1] at h
      simp only at h
      cases e2 : fzV o with
      | none => rw [e2] at h; exact h.elim
      | some u =>
        rw [e2] at h
        intro H' μ' x g hG r
        cases r with
        | ref hn => exact h H' _ _ (g.trans Gr.fz) hG.fz (RO.fz hG hn e1 e2)
  | _ => exact h
theorem se_fz (h : SE X W e m) : SE X W e (mFz m) := by
  refine PE.imp h fun σ H Q ⟨ρ, μ, G, hσ, hG, h⟩ => ⟨ρ, μ, G, hσ, hG, ?_⟩
  unfold mFz at h
  cases e1 : m ρ G with
  | stuck => rw [e1] at h; exact h
  | exc c d G' => rw [e1] at h; exact h
  | ok v G1 => rw [e1] at h; exact fz_aft h
/-- what name i is is not written any more, behind st -/
def mFzA (i : Nat) (st : MS) : MS := fun ρ G => match st ρ G with
  | .nx ρ1 G1 => match ρ1[i]? with
    | some (some (.ref n)) => match G1[n]? with
      | some o => match fzV o with
        | some u => .nx (ρ1.set i (some u)) (G1.set n .gone)
        | none => .stuck
      | none => .stuck
    | _ => .nx ρ1 G1
  | r => r
theorem ss_fzA {i : Nat} (h : SS X W s st) : SS X W s (mFzA i st) := by
  refine PS.imp h fun D σ H ⟨ρ, μ, G, hσ, hG, h⟩ => ⟨ρ, μ, G, hσ, hG, ?_⟩
  unfold mFzA at h
  cases e1 : st ρ G with
  | nx ρ1 G1 =>
    rw [e1] at h
    simp only at h
    cases e2 : ρ1[i]? with
    | none => rw [e2] at h; exact h
    | some o =>
      rw [e2] at h
      cases o with
      | none => exact h
      | some v =>
        cases v with
        | ref n =>
          simp only at h
          cases e3 : G1[n]? with
          | none => rw [e3] at h; exact h.elim
          | some o =>
            rw [e3] at h
            simp only at h
            cases e4 : fzV o with
            | none => rw [e4] at h; exact h.elim
            | some u =>
              rw [e4] at h
              intro H' μ' σ' g hG' hσ'
              obtain ⟨x, hx, r⟩ := hσ'.at_ i _ e2
              cases r with
              | ref hn =>
                have hs := (hσ'.gr (Gr.fz (n := n) (H := H'))).set (i := i) (RO.fz hG' hn e3 e4)
                have es : σ'.set i (some (.ref _)) = σ' := List.ext_getElem? fun k => by
                  by_cases z : i = k
                  · subst z; rw [List.getElem?_set_self (List.getElem?_eq_some_iff.mp hx).1]; exact hx.symm
                  · rw [List.getElem?_set_ne z]
                rw [es] at hs
                exact h H' _ σ' (g.trans Gr.fz) hG'.fz hs
        | _ => exact h
  | _ => rw [e1] at h; exact h
def mLstI (ms : MEs) : ME := fun ρ G => (ms ρ G).bind fun vs G1 => if vs.length ≤ szl then .ok (.ls vs) G1 else .stuck
theorem ls_new {K : PySem.W.Frag} {H : Hp} {μ : Mu} {G : Hs} {p : Addr} {xs : List AV} {vs : List V} (hG : RH K H μ G) (hp : H p = none) (rs : RAs K H μ xs vs) : RA K (upd H p (.lst vs)) μ (.ls xs) (.ref p) :=
  .ls ⟨upd_same, hG.nmem hp⟩ (rs.gr (Gr.new hp))
theorem se_lstI (h : SA X W es ms) : SE X W (.List es pos) (mLstI ms) := by
  refine PE.imp (pe_lst h) fun σ H Q ⟨ρ, μ, G, hσ, hG, h⟩ => tG.bind hσ hG h fun vs G1 H1 μ1 xs g1 hσ1 hG1 rs h1 => ?_
  by_cases hz : vs.length ≤ szl
  · simp only [if_pos hz] at h1
    exact ⟨by rw [← rs.length]; exact hz, fun p hp => h1 _ _ _ (Gr.new hp) (hG1.new hp) (ls_new hG1 hp rs)⟩
  · simp only [if_neg hz] at h1
    exact h1.elim
/-- a list that was made here -/
def lstM (G : Hs) : AV → Option (List AV)
  | .ls xs => some xs
  | .ref n => match G[n]? with
    | some (.lst xs) => some xs
    | _ => none
  | _ => none
theorem lstM_ok {K : PySem.W.Frag} {H : Hp} {μ : Mu} {G : Hs} {v : AV} {x : V} {xs : List AV} (hG : RH K H μ G) (r : RA K H μ v x) (e : lstM G v = some xs) : ∃ a vs, x = .ref a ∧ H a = some (.lst vs) ∧ RAs K H μ xs vs := by
  cases r with
  | ls h rs => cases e; exact ⟨_, _, rfl, h.1, rs⟩
  | ref h =>
    obtain ⟨o, ho, ro⟩ := hG.obj h
    simp only [lstM, ho] at e
    cases o with
    | lst zs => cases e; obtain ⟨vs, h1, h2⟩ := ro; exact ⟨_, vs, rfl, h1, h2⟩
    | _ => cases e
  | _ => cases e
def fAddI (v w : AV) (G : Hs) : R AV := match lstM G v with
  | none => fAdd v w G
  | some xs => match lstM G w with
    | some ys => if xs.length + ys.length ≤ szl then .ok (.ls (xs ++ ys)) G else .stuck
    | none => .stuck
theorem op2_addI {K : PySem.W.Frag} : Op2 K (rAddA K) fAddI := by
  intro W σ H μ G v w x y Q hG rv rw' q
  unfold fAddI at q
  cases e1 : lstM G v with
  | none => rw [e1] at q; exact op2_add W σ H μ G v w x y Q hG rv rw' q
  | some xs =>
    rw [e1] at q
    simp only at q
    cases e2 : lstM G w with
    | none => rw [e2] at q; exact q.elim
    | some ys =>
      rw [e2] at q
      obtain ⟨hz, q⟩ := po_if q
      obtain ⟨p1, vs, rfl, h1, r1⟩ := lstM_ok hG rv e1
      obtain ⟨p2, ws, rfl, h2, r2⟩ := lstM_ok hG rw' e2
      exact .inr (.inl ⟨p1, p2, vs, ws, rfl, rfl, h1, h2, by rw [← r1.length, ← r2.length]; exact hz, fun p hp => q _ _ _ (Gr.new hp) (hG.new hp) (ls_new hG hp (r1.app r2))⟩)
/-- x += e, of a numbered list too -/
def fIAddI (v w : AV) (G : Hs) : R AV := match v with
  | .ref m => match G[m]?, lstM G w with
    | some (.lst xs), some ys => if xs.length + ys.length ≤ szl then .ok (.ref m) (G.set m (.lst (xs ++ ys))) else .stuck
    | _, _ => .stuck
  | v => fIAdd v w G
/-- list(xs), inline -/
def fListI : List AV → Hs → R AV
  | [v], G => match seqOf G v with
    | some xs => .ok (.ls xs) G
    | none => .stuck
  | _, _ => .stuck
theorem opN_listI {K : PySem.W.Frag} : OpN K (fun xs H Q => ∃ p ys, xs = [.ref p] ∧ (SqL K H p ys ∨ SqT K H p ys) ∧ ∀ l, H l = none → Q (.ref l) (upd H l (.lst ys))) fListI := by
  intro W σ H μ G vs xs Q hG rs q
  match vs, rs, q with
  | [v], rs, q =>
    obtain ⟨y, rfl, r⟩ := rs.one
    simp only [fListI] at q
    cases e : seqOf G v with
    | none => rw [e] at q; exact q.elim
    | some zs =>
      rw [e] at q
      obtain ⟨a, ws, rfl, hs, rt⟩ := seqOf_ok hG r e
      exact ⟨a, ws, rfl, hs, fun l hl => q _ _ _ (Gr.new hl) (hG.new hl) (ls_new hG hl rt)⟩
end
section
variable {QV : AV → Hs → Prop} {E : XQ} {G G1 : Hs} {ρ : En} {D : SP}
/-- what a number becomes -/
def fzQ (QV : AV → Hs → Prop) (v : AV) (G : Hs) : Prop := match v with
  | .ref n => match G[n]? with
    | some o => match fzV o with
      | some u => QV u (G.set n .gone)
      | none => False
    | none => False
  | v => QV v G
@[simp] theorem wp_fz (m : ME) : (mFz m ρ G).wp QV E = (m ρ G).wp (fzQ QV) E := by
  unfold mFz
  rw [wp_bind]
  congr 1
  funext v G
  cases v with
  | ref n =>
    unfold fzQ
    simp only
    cases G[n]? with
    | none => rfl
    | some o =>
      simp only
      cases fzV o <;> rfl
  | _ => rfl
@[simp] theorem fzQ_ls (xs : List AV) : fzQ QV (.ls xs) G = QV (.ls xs) G := rfl
@[simp] theorem fzQ_tup (xs : List AV) : fzQ QV (.tup xs) G = QV (.tup xs) G := rfl
@[simp] theorem fzQ_iv (c ns) (xs : List AV) : fzQ QV (.iv c ns xs) G = QV (.iv c ns xs) G := rfl
@[simp] theorem fzQ_int (i : Int) : fzQ QV (.int i) G = QV (.int i) G := rfl
@[simp] theorem fzQ_str (i : Str) : fzQ QV (.str i) G = QV (.str i) G := rfl
@[simp] theorem fzQ_bl (i : Bool) : fzQ QV (.bl i) G = QV (.bl i) G := rfl
@[simp] theorem fzQ_non : fzQ QV .non G = QV .non G := rfl
theorem fzQ_ref {n : Nat} {o : AO} {u : AV} (h : G[n]? = some o) (e : fzV o = some u) : fzQ QV (.ref n) G = QV u (G.set n .gone) := by
  simp only [fzQ, h, e]
theorem fzQ_lst {n : Nat} {xs : List AV} (h : G[n]? = some (.lst xs)) : fzQ QV (.ref n) G = QV (.ls xs) (G.set n .gone) := fzQ_ref h rfl
theorem fzQ_ins {n : Nat} {c : Str} {fs : List (Str × AV)} (h : G[n]? = some (.ins c fs)) : fzQ QV (.ref n) G = QV (.iv c (fs.map (·.1)) (fs.map (·.2))) (G.set n .gone) := fzQ_ref h rfl
theorem wp_fzA {i : Nat} {st : MS} : (mFzA i st ρ G).wp D = (st ρ G).wp { D with nx := fun ρ1 G1 => match ρ1[i]? with
    | some (some (.ref n)) => match G1[n]? with
      | some o => match fzV o with
        | some u => D.nx (ρ1.set i (some u)) (G1.set n .gone)
        | none => False
      | none => False
    | _ => D.nx ρ1 G1 } := by
  unfold mFzA
  cases st ρ G with
  | nx ρ1 G1 =>
    simp only [SR.wp]
    cases e2 : ρ1[i]? with
    | none => rfl
    | some o =>
      cases o with
      | none => rfl
      | some v =>
        cases v with
        | ref n =>
          simp only
          cases G1[n]? with
          | none => rfl
          | some o =>
            simp only
            cases fzV o <;> rfl
        | _ => rfl
  | _ => rfl
@[simp] theorem wp_lstI (ms : MEs) : (mLstI ms ρ G).wp QV E = (ms ρ G).wp (fun vs G => vs.length ≤ szl ∧ QV (.ls vs) G) E := by
  unfold mLstI
  rw [wp_bind]
  congr 1
  funext vs G
  exact wp_guard _
/-- i is x, then not written any more: an assignment -/
theorem wp_fzSet {i : Nat} {m : ME} (hi : i < ρ.length) : (mFzA i (mAsg m (gNm i)) ρ G).wp D = (mFz m ρ G).wp (fun v G => D.nx (ρ.set i (some v)) G) D.ex := by
  rw [wp_fzA, wp_asg, wp_fz]
  congr 1
  funext v G
  simp only [List.getElem?_set_self hi]
  cases v with
  | ref n =>
    unfold fzQ
    simp only [List.set_set]
  | _ => rfl
theorem wp_addLs {xs ys : List AV} : (fAddI (.ls xs) (.ls ys) G).wp QV E = (xs.length + ys.length ≤ szl ∧ QV (.ls (xs ++ ys)) G) := wp_guard _
theorem wp_addIs {a c : Str} : (fAddI (.str a) (.str c) G).wp QV E = (a.length + c.length ≤ szl ∧ QV (.str (a ++ c)) G) := wp_guard _
theorem wp_iaddIs {a c : Str} : (fIAddI (.str a) (.str c) G).wp QV E = (a.length + c.length ≤ szl ∧ QV (.str (a ++ c)) G) := wp_guard _
theorem ix_ls {xs : List AV} {i : Int} {v : AV} (h0 : 0 ≤ i) (h1 : i < xs.length) (h : xs[i.toNat]? = some v) : (fIx (.ls xs) (.int i) G).wp QV E = QV v G := by
  have e1 : seqOf G (.ls xs) = some xs := rfl
  simp only [fIx, e1, atI_in h0 h1, h, wp_ok]
theorem ixL0 {a : AV} {r : List AV} : (fIx (.ls (a :: r)) (.int 0) G).wp QV E = QV a G := ix_ls (by decide) (by simp only [List.length_cons]; omega) rfl
theorem ixL1 {a0 a : AV} {r : List AV} : (fIx (.ls (a0 :: a :: r)) (.int 1) G).wp QV E = QV a G := ix_ls (by decide) (by simp only [List.length_cons]; omega) rfl
theorem ixL2 {a0 a1 a : AV} {r : List AV} : (fIx (.ls (a0 :: a1 :: a :: r)) (.int 2) G).wp QV E = QV a G := ix_ls (by decide) (by simp only [List.length_cons]; omega) rfl
theorem ixL3 {a0 a1 a2 a : AV} {r : List AV} : (fIx (.ls (a0 :: a1 :: a2 :: a :: r)) (.int 3) G).wp QV E = QV a G := ix_ls (by decide) (by simp only [List.length_cons]; omega) rfl
theorem fld_iv {cs : List Str} {f c : Str} {ns : List Str} {xs : List AV} {v : AV} (hc : c ∈ cs) (h : (ns.zip xs).lookup f = some v) : (fFld cs f (.iv c ns xs) G).wp QV E = QV v G := by
  simp only [fFld, hc, if_true, h, wp_ok]
end
end Vz
namespace Vz
open PySem L2
section
variable {QV : AV → Hs → Prop} {E : XQ} {G G0 G1 G2 : Hs} {ρ : En} {D : SP} {b t s n : Nat}
theorem FrN.kpt (h : FrN n G G1) (k : Kp 0 G1 G2) : FrN n G G2 := ⟨Nat.le_trans h.le k.le, fun m hm hl => (k.at_ m (Nat.zero_le _) (Nat.lt_of_lt_of_le hl h.le)).trans (h.at_ m hm hl)⟩
theorem FrN.kp0 {o : AO} (h : FrN G.length (G ++ [o]) G1) : Kp 0 G G1 := h.kp rfl
theorem FrN.trans' (h : FrN n G G1) (k : FrN n G1 G2) : FrN n G G2 := ⟨Nat.le_trans h.le k.le, fun m hm hl => (k.at_ m hm (Nat.lt_of_lt_of_le hl h.le)).trans (h.at_ m hm hl)⟩
theorem Kp.get0 (k : Kp 0 G G1) {o : AO} (e : G[n]? = some o) : G1[n]? = some o := k.get (Nat.zero_le _) e
/-- of items that keep what stands -/
theorem wp_lcG {mi : MI} {g : MG} {tt : MB} {m : ME} {own : List Nat} {vs : List AV} (hk : mi ρ G = .ok (vs, none) G0) (k0 : Kp 0 G G0) (p : AV → Bool) (y : AV → AV) (hl : vs.length ≤ szl)
    (hb : ∀ v ∈ vs, ∀ G1, Kp 0 G0 G1 → ∃ ρ1, g v (wipeA ρ own) G1 = .ok ρ1 G1 ∧ (tt ρ1 G1).wp (fun k G2 => k = p v ∧ Kp 0 G1 G2 ∧ (k = true → (m ρ1 G2).wp (fun r G3 => r = y v ∧ Kp 0 G2 G3) noX)) noX)
    (hq : ∀ G', Kp 0 G G' → QV (.ls ((vs.filter p).map y)) G') : (mFz (mLc mi g tt m own) ρ G).wp QV E := by
  rw [wp_fz]
  refine wp_lcK hk (fun j acc G1 => acc = ((vs.take j).filter p).map y ∧ FrN G0.length (G0 ++ [.lst []]) G1) ⟨by simp, .refl⟩ (fun _ _ _ _ _ => True.intro) (fun j v acc G1 hv ⟨ha, hf⟩ hD => ?_) fun acc G1 hD ⟨ha, hf⟩ => ?_
  · have hv : vs[j]? = some v := hv
    obtain ⟨ρ1, e1, w⟩ := hb v (List.mem_of_getElem? hv) G1 hf.kp0
    refine ⟨ρ1, G1, e1, w.mono (fun k G2 ⟨ek, k2, w2⟩ => ?_) fun _ _ _ x => x⟩
    have hj : j < vs.length := (List.getElem?_eq_some_iff.mp hv).1
    have et : vs.take (j + 1) = vs.take j ++ [v] := by rw [List.take_succ, hv]; rfl
    cases k with
    | false =>
      rw [if_neg (by decide)]
      refine ⟨k2.get0 hD, ?_, hf.kpt k2⟩
      rw [et, List.filter_append, List.filter_cons_of_neg (by rw [← ek]; decide), List.filter_nil, List.append_nil]
      exact ha
    | true =>
      rw [if_pos rfl]
      refine (w2 rfl).mono (fun r G3 ⟨er, k3⟩ => ?_) fun _ _ _ x => x
      have hal : acc.length ≤ j := by
        rw [ha, List.length_map]
        exact Nat.le_trans (List.length_filter_le _ _) (by rw [List.length_take]; omega)
      refine ⟨k3.get0 (k2.get0 hD), by omega, ?_, ((hf.kpt k2).kpt k3).set⟩
      rw [et, List.filter_append, List.filter_cons_of_pos (by rw [← ek]), List.filter_nil, List.map_append, ← ha, er]
      rfl
  · show fzQ QV _ _
    rw [fzQ_lst hD, ha, List.take_length]
    exact hq _ (k0.trans (hf.kp0.setN (Nat.le_refl _)))
/-- of all items -/
theorem wp_lcM {mi : MI} {g : MG} {m : ME} {own : List Nat} {vs : List AV} (hk : mi ρ G = .ok (vs, none) G0) (k0 : Kp 0 G G0) (y : AV → AV) (hl : vs.length ≤ szl)
    (hb : ∀ v ∈ vs, ∀ G1, Kp 0 G0 G1 → ∃ ρ1, g v (wipeA ρ own) G1 = .ok ρ1 G1 ∧ (m ρ1 G1).wp (fun r G3 => r = y v ∧ Kp 0 G1 G3) noX)
    (hq : ∀ G', Kp 0 G G' → QV (.ls (vs.map y)) G') : (mFz (mLc mi g mYes m own) ρ G).wp QV E := by
  refine wp_lcG hk k0 (fun _ => true) y hl (fun v hv G1 k => ?_) fun G' k => ?_
  · obtain ⟨ρ1, e, w⟩ := hb v hv G1 k
    exact ⟨ρ1, e, rfl, Kp.refl _ _, fun _ => w⟩
  · rw [List.filter_eq_self.mpr fun _ _ => rfl]
    exact hq G' k
/-- of items that draw -/
theorem wp_lcD {mi : MI} {g : MG} {m : ME} {own : List Nat} {vs : List AV} (hk : mi ρ G = .ok (vs, none) G0) (k0 : Kp b G G0) (hd : Dr b t s G0) (c : Nat) (T : AV → AV → Prop) (hl : vs.length ≤ szl)
    (hb : ∀ j v G1, vs[j]? = some v → Dr b (t + c * j) s G1 → Kp b G0 G1 → ∃ ρ1, g v (wipeA ρ own) G1 = .ok ρ1 G1 ∧ (m ρ1 G1).wp (fun r G2 => T v r ∧ Dr b (t + c * (j + 1)) s G2 ∧ Kp b G1 G2) noX)
    (hq : ∀ (xs : List AV) (G' : Hs), xs.length = vs.length → (∀ (j : Nat) (v r : AV), vs[j]? = some v → xs[j]? = some r → T v r) → Dr b (t + c * vs.length) s G' → Kp b G G' → QV (.ls xs) G') : (mFz (mLc mi g mYes m own) ρ G).wp QV E := by
  rw [wp_fz]
  refine wp_lcK hk (fun j acc G1 => acc.length = j ∧ (∀ (i : Nat) (v r : AV), vs[i]? = some v → acc[i]? = some r → T v r) ∧ Dr b (t + c * j) s G1 ∧ Kp b G0 G1) ⟨rfl, fun i v r _ h => by simp at h, hd.app, Kp.app _ _ _⟩ (fun _ _ _ _ _ => True.intro)
    (fun j v acc G1 hv ⟨ha, hT, hd1, hk1⟩ hD => ?_) fun acc G1 hD ⟨ha, hT, hd1, hk1⟩ => ?_
  · have hv : vs[j]? = some v := hv
    have hj : j < vs.length := (List.getElem?_eq_some_iff.mp hv).1
    obtain ⟨ρ1, e1, w⟩ := hb j v G1 hv hd1 hk1
    refine ⟨ρ1, G1, e1, ?_⟩
    show R.wp _ _ _
    refine w.mono (fun r G3 ⟨er, d3, k3⟩ => ?_) fun _ _ _ x => x
    refine ⟨k3.get hd.bl hD, by omega, by simp [ha], fun i v' r' h1 h2 => ?_, d3.setN hd.bl, (hk1.trans k3).setN (Nat.le_refl _)⟩
    by_cases hi : i < acc.length
    · rw [List.getElem?_append_left hi] at h2
      exact hT i v' r' h1 h2
    · rw [List.getElem?_append_right (by omega)] at h2
      have e0 : i - acc.length = 0 := by
        cases q : i - acc.length with
        | zero => rfl
        | succ z => rw [q] at h2; simp at h2
      rw [e0] at h2
      have ei : i = j := by omega
      subst ei
      rw [hv] at h1
      cases h1
      cases h2
      exact er
  · show fzQ QV _ _
    rw [fzQ_lst hD]
    exact hq acc _ ha hT (hd1.setN hd.bl) (k0.trans (hk1.setN (Nat.le_refl _)))
end
end Vz
namespace Vz
open PySem L2
section
variable {QV : AV → Hs → Prop} {E : XQ} {G G0 G1 G2 : Hs} {ρ : En} {D : SP} {b t s n : Nat}
theorem zAV_of {P : Int → Prop} : ∀ {xs : List AV}, (∀ r ∈ xs, ∃ i, r = .int i ∧ P i) → ∃ l, xs = zAV l ∧ ∀ i ∈ l, P i
  | [], _ => ⟨[], rfl, fun _ h => nomatch h⟩
  | x :: xs, h => by
    obtain ⟨i, rfl, hi⟩ := h x (List.mem_cons_self ..)
    obtain ⟨l, rfl, hl⟩ := zAV_of (xs := xs) fun r hr => h r (List.mem_cons_of_mem _ hr)
    exact ⟨i :: l, rfl, fun j hj => by
      rcases List.mem_cons.mp hj with q | q
      · rw [q]; exact hi
      · exact hl j q⟩
theorem all_of {T : AV → Prop} {vs xs : List AV} (hl : xs.length = vs.length) (h : ∀ (j : Nat) (v r : AV), vs[j]? = some v → xs[j]? = some r → T r) : ∀ r ∈ xs, T r := fun r hr => by
  obtain ⟨j, hj⟩ := List.mem_iff_getElem?.mp hr
  have : j < vs.length := by rw [← hl]; exact (List.getElem?_eq_some_iff.mp hj).1
  exact h j vs[j] r (List.getElem?_eq_getElem this) hj
/-- a slice -/
theorem slI_ok {ma : ME} {ml mh : MO} {xs : List AV} {lo hi : Option Int} (h : ma ρ G = .ok (.ls xs) G) (h1 : ml ρ G = .ok lo G) (h2 : mh ρ G = .ok hi G) : mFz (mSl ma ml mh) ρ G = .ok (.ls (cutA xs lo hi)) (G ++ [.gone]) := by
  unfold mFz mSl
  rw [h]
  simp only [R.bind_ok, h1, h2, fSl, tupOf, lstOf, List.getElem?_concat_length, fzV, List.set_append_right _ _ (Nat.le_refl _), Nat.sub_self, List.set_cons_zero]
theorem var_ok {i : Nat} {v : AV} (h : ρ[i]? = some (some v)) : mVar i ρ G = .ok v G := by
  unfold mVar
  rw [h]
theorem all_ls {bs : List Bool} : (fAll [.ls (bs.map .bl)] G).wp QV E = QV (.bl (bs.all id)) G := by
  simp only [fAll, lstOf, bls_map, wp_ok]
/-- two walks, of items that change nothing -/
theorem wp_lc2I {mi mi1 : MI} {g g1 : MG} {tt t1 : MB} {m : ME} {own own1 : List Nat} {vs : List AV} (hk : mi ρ G = .ok (vs, none) G0) (k0 : Kp 0 G G0) (w1 : AV → List AV) (y : AV → AV → AV) (hl : (vs.flatMap w1).length ≤ szl)
    (hb : ∀ v ∈ vs, ∀ G1, ∃ ρ1, g v (wipeA ρ own) G1 = .ok ρ1 G1 ∧ tt ρ1 G1 = .ok true G1 ∧ mi1 ρ1 G1 = .ok (w1 v, none) G1 ∧
        ∀ u ∈ w1 v, ∀ G1, ∃ ρ2, g1 u (wipeA ρ1 own1) G1 = .ok ρ2 G1 ∧ t1 ρ2 G1 = .ok true G1 ∧ m ρ2 G1 = .ok (y v u) G1)
    (hq : ∀ G', Kp 0 G G' → QV (.ls (vs.flatMap fun v => (w1 v).map (y v))) G') : (mFz (mLc2 mi g tt mi1 g1 t1 m own own1) ρ G).wp QV E := by
  rw [wp_fz]
  refine wp_lc2PK hk w1 y hl True.intro (fun v hv acc => ?_) ?_
  · obtain ⟨ρ1, e1, e2, e3, e4⟩ := hb v hv (G0 ++ [.lst acc])
    exact ⟨ρ1, none, e1, e2, e3, fun _ => True.intro, fun u hu acc => by
      obtain ⟨ρ1', f1, _, _, f4⟩ := hb v hv (G0 ++ [.lst acc])
      exact e4 u hu _⟩
  · rw [fzQ_lst List.getElem?_concat_length]
    exact hq _ (k0.trans ((Kp.app _ _ _).setN (Nat.le_refl _)))
theorem sz0 : (0 ≤ szl) = True := eq_true (by decide)
theorem sz1 : (1 ≤ szl) = True := eq_true (by decide)
theorem sz2 : (2 ≤ szl) = True := eq_true (by decide)
theorem sz3 : (3 ≤ szl) = True := eq_true (by decide)
theorem sz4 : (4 ≤ szl) = True := eq_true (by decide)
theorem sz5 : (5 ≤ szl) = True := eq_true (by decide)
theorem sz6 : (6 ≤ szl) = True := eq_true (by decide)
theorem sz7 : (7 ≤ szl) = True := eq_true (by decide)
theorem sz8 : (8 ≤ szl) = True := eq_true (by decide)
theorem sz9 : (9 ≤ szl) = True := eq_true (by decide)
theorem sz10 : (10 ≤ szl) = True := eq_true (by decide)
theorem sz11 : (11 ≤ szl) = True := eq_true (by decide)
theorem sz12 : (12 ≤ szl) = True := eq_true (by decide)
theorem isS_s (w : Str) : (isS (.str w) G = true) = True := eq_true rfl
theorem isL_ls (xs : List AV) : (isL (.ls xs) G = true) = True := eq_true rfl
theorem in_tupS {w : Str} {xs : List Str} : (fIn (.str w) (.tup (xs.map .str)) G).wp QV E = QV (.bl (xs.any fun y => y == w)) G := by
  unfold fIn
  rw [inB_seq rfl fun z e => by cases e]
  rfl
theorem in_tup2 {w a c : Str} : (fIn (.str w) (.tup [.str a, .str c]) G).wp QV E = QV (.bl ([a, c].any fun y => y == w)) G := in_tupS (xs := [a, c])
theorem nin_tupS {w : Str} {xs : List Str} : (fNin (.str w) (.tup (xs.map .str)) G).wp QV E = QV (.bl (!xs.any fun y => y == w)) G := by
  unfold fNin
  rw [inB_seq rfl fun z e => by cases e]
  rfl
theorem nin_tup2 {w a c : Str} : (fNin (.str w) (.tup [.str a, .str c]) G).wp QV E = QV (.bl (![a, c].any fun y => y == w)) G := nin_tupS (xs := [a, c])
/-- for one name -/
theorem wp_forNm {mi : MI} {x : Nat} {body : MS} {vs : List AV} {gd : Option (Nat × List AV)} (hk : mi ρ G = .ok (vs, gd) G0) (I : Nat → En → Hs → Prop) (h0 : I 0 ρ G0) (hg : ∀ j ρ G, j ≤ vs.length → I j ρ G → gdOk gd G)
    (hs : ∀ j v ρ G, vs[j]? = some v → I j ρ G → (body (ρ.set x (some v)) G).wp { nx := I (j + 1), rt := D.rt, bk := D.nx, ct := I (j + 1), ex := D.ex })
    (he : ∀ ρ G, I vs.length ρ G → D.nx ρ G) : (mFor mi (gNm x) body ρ G).wp D :=
  wp_forK hk I h0 hg (fun j v ρ G e h => by rw [mg_nm]; exact hs j v ρ G e h) he
/-- for one name, over a range from nought -/
theorem wp_forRg {mi : MI} {x : Nat} {body : MS} {lo hi : Int} (hk : mi ρ G = .ok (rgA lo hi, none) G0) (I : Nat → En → Hs → Prop) (h0 : I 0 ρ G0)
    (hs : ∀ (j : Nat) ρ G, lo + j < hi → I j ρ G → (body (ρ.set x (some (.int (lo + j)))) G).wp { nx := I (j + 1), rt := D.rt, bk := D.nx, ct := I (j + 1), ex := D.ex })
    (he : ∀ ρ G, I (hi - lo).toNat ρ G → D.nx ρ G) : (mFor mi (gNm x) body ρ G).wp D :=
  wp_forNm hk I h0 (fun _ _ _ _ _ => True.intro) (fun j v ρ G e h => by obtain ⟨rfl, hj⟩ := rgA_get e; exact hs j ρ G hj h) (fun ρ G h => he ρ G (by rw [rgA_len] at h; exact h))
end
end Vz
namespace Vz
open PySem PySem.Spec L2 PyProof.Rows
section
variable {X : Cx} {W : WX} {a b c e o i : Expr} {es : List Expr} {m ma mb mo mi : ME} {ms : MEs} {pos : Pos}
/-- a, b, c = e1, e2, e3 : three names -/
def mPar3 (i j l : Nat) (ms : MEs) : MS := fun ρ G => (ms ρ G).toS ρ fun vs G1 => match vs with
  | [u, v, w] => .nx (((ρ.set i (some u)).set j (some v)).set l (some w)) G1
  | _ => .stuck
def fLs (o i v : AV) (G : Hs) : R Unit := match o, i with
  | .ref n, .int k => match G[n]? with
    | some (.lst xs) => match ixN xs.length k with
      | some j => .ok () (G.set n (.lst (xs.set j v)))
      | none => .stuck
    | _ => .stuck
  | _, _ => .stuck
def gLs (mo mi : ME) : MG := fun v ρ G => (mo ρ G).bind fun o G1 => (mi ρ G1).bind fun i G2 => (fLs o i v G2).bind fun _ G3 => .ok ρ G3
theorem fLs_ok {K : PySem.W.Frag} {H : Hp} {μ : Mu} {G G1 : Hs} {o i v : AV} {x y z : V} {u : Unit} (hG : RH K H μ G) (ro : RA K H μ o x) (ri : RA K H μ i y) (rv : RA K H μ v z) (e : fLs o i v G = .ok u G1) :
    ∃ p xs k j, x = .ref p ∧ y = .int k ∧ H p = some (.lst xs) ∧ ixN xs.length k = some j ∧ Gr H μ (upd H p (.lst (xs.set j z))) μ ∧ RH K (upd H p (.lst (xs.set j z))) μ G1 := by
  cases ro with
  | ref hn =>
    cases ri with
    | int k =>
      rename_i n a
      simp only [fLs] at e
      cases e1 : G[n]? with
      | none => rw [e1] at e; cases e
      | some ob =>
        rw [e1] at e
        cases ob with
        | lst xs =>
          simp only at e
          obtain ⟨vs, h1, h2⟩ := hG.at_ _ _ _ hn e1
          cases e2 : ixN xs.length k with
          | none => rw [e2] at e; cases e
          | some j =>
            rw [e2] at e
            cases e
            have gp : Gr H μ (upd H a (.lst (vs.set j z))) μ := Gr.put hG hn e1
            exact ⟨a, vs, k, j, rfl, rfl, h1, by rw [← h2.length]; exact e2, gp, hG.put (o := .lst (xs.set j v)) hn e1 ⟨_, upd_same, (RAs.set rv j h2).gr gp⟩⟩
        | _ => cases e
    | _ => cases e
  | _ => cases e
theorem sg_ls (ho : SE X W o mo) (hi : SE X W i mi)
    (ha : ∀ v, assign (.Subscript o i pos) X.env v = (do
      let ov ← holding [v] (eval o X.env)
      let iv ← holding [v, ov] (eval i X.env)
      standAt pos
      holding [v, ov, iv] (setItem ov iv v)
      release [v, ov, iv] []) := by intro _; rfl) : SG X W [] (.Subscript o i pos) (gLs mo mi) := by
  refine PG.imp (pg_sub ho hi set_list ha) fun v σ H Q ⟨av, ρ, μ, G, r, hσ, hG, h⟩ => ⟨ρ, μ, G, hσ, hG, ?_⟩
  unfold gLs at h
  cases e1 : mo ρ G with
  | stuck => rw [e1] at h; exact h.elim
  | exc c d G' => rw [e1] at h; exact h.elim
  | ok ov G1 =>
    rw [e1] at h
    intro H1 μ1 x g1 hG1 r1
    refine ⟨ρ, μ1, G1, hσ.gr g1, hG1, ?_⟩
    simp only [R.bind_ok] at h
    cases e2 : mi ρ G1 with
    | stuck => rw [e2] at h; exact h.elim
    | exc c d G' => rw [e2] at h; exact h.elim
    | ok iv G2 =>
      rw [e2] at h
      intro H2 μ2 y g2 hG2 r2
      simp only [R.bind_ok] at h
      cases e3 : fLs ov iv av G2 with
      | stuck => rw [e3] at h; exact h.elim
      | exc c d G' => rw [e3] at h; exact h.elim
      | ok u G3 =>
        rw [e3] at h
        have h : ∀ H' μ' σ', Gr H μ H' μ' → RH X.K H' μ' G3 → RS X.K H' μ' ρ σ' → σ'.length = σ.length → (∀ j, j ∉ ([] : List Nat) → σ'[j]? = σ[j]?) → Q σ' H' := h
        obtain ⟨p, xs, k, j, hx, hy, hp, hj, gp, hr⟩ := fLs_ok hG2 (r1.gr g2) r2 ((r.gr g1).gr g2) e3
        exact ⟨p, xs, k, j, hx, hy, hp, hj, h _ μ2 σ ((g1.trans g2).trans gp) hr (((hσ.gr g1).gr g2).gr gp) rfl fun _ _ => rfl⟩
end
end Vz
namespace Vz
open PySem PySem.Spec L2 PyProof.Rows
end Vz
namespace Vz
open PySem PySem.Spec L2
open PyProof.Rows (AllBare)
section
variable {X : Cx} {pins : List (Addr × Obj)} {σ : St} {H : Hp} {sI s s' : Shared} {B : Heap} {a : Addr} {C : Value} {d : Option Addr} {oe : Obj} {vs : Array Value}
/-- back on the ground, the exception tracked -/
theorem Inv_held (I : Inv X pins σ H sI) (nb : ∀ b o, sI.heap.get? b = some o → b ∉ frs X.stack → B.get? b = some o) (st : B.StaysIn s'.heap) (up : sI.heap.UpToSlots s'.heap) (os : s'.os = sI.os) (ag : AllBare s'.gens)
    (hB : B.get? a = none) (nfr : a ∉ frs X.stack) (na : H a = none) (ha : s'.heap.get? a = some oe) (hz : Zc C d oe) (hd : oe.data = .fields vs) : Inv X pins σ (upd H a (xo a C d)) s' := by
  have hsa : sI.heap.get? a = none := by
    cases q : sI.heap.get? a with
    | none => rfl
    | some o =>
      have z := nb a o q nfr
      rw [hB] at z
      cases z
  have ne : ∀ {b : Addr} {o : Obj}, sI.heap.get? b = some o → b ≠ a := fun {b o} e z => by
    rw [z, hsa] at e
    cases e
  have inFr : ∀ b ∈ frs X.stack, ∀ o, sI.heap.get? b = some o → ∃ sl, s'.heap.get? b = some { o with slots := sl } := fun b m o g => by
    obtain ⟨_, o2, g2, no⟩ := I.stack.mem m
    cases g.symm.trans g2
    exact up b o g no
  have hok : HOk X.prog X.w (upd H a (xo a C d)) s'.heap := fun b o q => by
    by_cases hb : b = a
    · subst hb
      rw [upd_same] at q
      cases q
      exact xo_ok ha hz hd
    · rw [upd_ne hb] at q
      exact (((I.inGround nb).kept st) b o q).stay (fun c v _ r => r) (fun c hc => by rw [upd_ne (ne_of_none hc na)]; exact hc) (fun c xs hc => by rw [upd_ne (ne_of_none hc na)]; exact hc)
  have J := I.call (ch := []) (h' := s'.heap) (g' := s'.gens) (t' := s'.toks) (d' := s'.drawn) (H' := upd H a (xo a C d))
    ⟨fun b o e _ hb _ => st b o (nb b o e hb), fun b o e _ hb _ => inFr b hb o e, fun b o e n _ => by rw [upd_ne (ne e)]; exact n, fun b o e _ => by
      by_cases hb : b ∈ frs X.stack
      · obtain ⟨sl, q⟩ := inFr b hb o e
        exact ⟨_, q⟩
      · exact ⟨o, st b o (nb b o e hb)⟩, fun b xs e => by rw [upd_ne (ne_of_none e na)]; exact e, fun b o u e => by rw [upd_ne (ne_of_none e na)]; exact e, fun b ps e => ⟨#[], by rw [upd_ne (ne_of_none e na), e]; simp⟩⟩
    hok ag (fun _ z => nomatch z)
  obtain ⟨hp1, gn1, dr1, tk1, os1⟩ := s'
  cases (show os1 = sI.os from os)
  exact J
/-- in the suite -/
theorem _root_.L2.Inv.suiteH (I : Inv X pins σ H s) (a : Addr) : Inv (X.suite a (X.pn ++ pins)) [] σ H s :=
  ⟨I.ok.suite _ _, I.os, I.bare, I.base, I.loc, I.cell, I.free, I.freeC, fun p hp => I.pin p (by rw [List.append_nil] at hp; exact hp), I.hok, I.len⟩
theorem _root_.L2.Inv.unsuiteH {pn' : List (Addr × Obj)} (I : Inv (X.suite a (X.pn ++ pins)) pn' σ H s) (ok : X.Ok) : Inv X pins σ H s :=
  ⟨ok, I.os, I.bare, I.base, I.loc, I.cell, I.free, I.freeC, fun p hp => I.pin p (List.mem_append_left _ hp), I.hok, I.len⟩
end
/-- an except clause: its class, the slot of its name, what its suite does -/
structure Hd where
  c : Value
  i : Option Nat
  t : TS
def unN : Option Nat → Ends → Ends
  | none, D => D
  | some i, D => { nx := fun σ H => D.nx (σ.set i none) H, rt := D.rt, bk := fun σ H => D.bk (σ.set i none) H, ct := fun σ H => D.ct (σ.set i none) H }
def inN : Option Nat → Addr → St → St
  | none, _, σ => σ
  | some i, a, σ => σ.set i (some (.ref a))
def wTry (K : PySem.W.Frag) (Wout : WX) (D : Ends) : List Hd → WX
  | [] => Wout
  | h :: r => fun cls d σ H => ∃ b, PySem.W.exmOne K cls h.c = some b ∧ (b = true → ∀ a, H a = none → h.t (unN h.i D) (inN h.i a σ) (upd H a (xo a cls d))) ∧ (b = false → wTry K Wout D r cls d σ H)
inductive HdsX (X : Cx) : List ExceptHandler → List Hd → Prop
  | nil : HdsX X [] []
  | one {x : Str} {c : Value} {t : TS} {b₀ : Stmt} {suite : List Stmt} {np pos' : Pos} {hds : List ExceptHandler} {l : List Hd} (hc : Names X x c)
      (hsu : ∀ (a : Addr) (pn : List (Addr × Obj)), PSs (X.suite a pn) (b₀ :: suite) t) (r : HdsX X hds l) : HdsX X (.ExceptHandler (some (.Name x np)) none (b₀ :: suite) pos' :: hds) (⟨c, none, t⟩ :: l)
  | as {x n : Str} {i : Nat} {c : Value} {t : TS} {b₀ : Stmt} {suite : List Stmt} {np pos' : Pos} {hds : List ExceptHandler} {l : List Hd} (hc : Names X x c) (hi : X.N[i]? = some n) (hln : X.env.kindOf n = some .local)
      (hsu : ∀ (a : Addr) (pn : List (Addr × Obj)), PSs (X.suite a pn) (b₀ :: suite) t) (r : HdsX X hds l) : HdsX X (.ExceptHandler (some (.Name x np)) (some n) (b₀ :: suite) pos' :: hds) (⟨c, some i, t⟩ :: l)
theorem sp_move {X Y : Cx} {ps qs : List (Addr × Obj)} {D : Ends} {fl : Flow} {t : Shared} (go : ∀ {σ : L2.St} {H : Hp}, Inv X ps σ H t → Inv Y qs σ H t) (z : L2.SP X ps D fl t) : L2.SP Y qs D fl t := by
  cases fl with
  | next => exact let ⟨σ, H, I, q⟩ := z; ⟨σ, H, go I, q⟩
  | brk => exact let ⟨σ, H, I, q⟩ := z; ⟨σ, H, go I, q⟩
  | cont => exact let ⟨σ, H, I, q⟩ := z; ⟨σ, H, go I, q⟩
  | ret u => exact let ⟨v, σ, H, I, rv, q⟩ := z; ⟨v, σ, H, go I, rv, q⟩
section
variable {X : Cx} {body orelse : List Stmt} {h₀ : ExceptHandler} {hds : List ExceptHandler} {l : List Hd} {pos : Pos} {tb : WX → TS} {u : TS} {Wout : WX}
/-- the clauses, one behind the other, over a ground on which the exception has landed -/
structure Land (X : Cx) (ps : List (Addr × Obj)) (B : Heap) (sI s1 : Shared) (hL : Heap) (σ : L2.St) (H : Hp) (a : Addr) (cls : Value) (d : Option Addr) : Prop where
  inv : Inv X ps σ H sI
  low : ∀ b o, sI.heap.get? b = some o → b ∉ frs X.stack → B.get? b = some o
  fly : HandSPX.FlyingZ B (X.env :: X.outer) a (Zc cls d) hL
  ups : sI.heap.UpToSlots hL
  os : s1.os = sI.os
  bare : AllBare s1.gens
  na : H a = none
section
variable {ps : List (Addr × Obj)} {B : Heap} {sI s1 : Shared} {hL : Heap} {σ : L2.St} {H : Hp} {a : Addr} {cls : Value} {d : Option Addr}
theorem Land.onward (Y : Land X ps B sI s1 hL σ H a cls d) {hM : Heap} (fy : HandSPX.FlyingZ B (X.env :: X.outer) a (Zc cls d) hM) (up : hL.UpToSlots hM) : Land X ps B sI s1 hM σ H a cls d :=
  { Y with fly := fy, ups := Y.ups.trans up }
theorem Land.plain (Y : Land X ps B sI s1 hL σ H a cls d) : Inv X ps σ H { s1 with heap := hL } := Y.inv.landed Y.low Y.fly.1 Y.ups Y.os Y.bare
theorem Land.notFrame (Y : Land X ps B sI s1 hL σ H a cls d) (hs : X.stack = X.env :: X.outer) : a ∉ frs X.stack := fun m => by
  obtain ⟨ob, vs, g, _, dt⟩ := Y.fly.there
  rw [hs] at m
  obtain ⟨_, ob2, g2, no⟩ := Y.fly.2.2.1.mem m
  rw [g] at g2
  cases g2
  exact no vs dt
/-- tracked from now on -/
theorem Land.tracked (Y : Land X ps B sI s1 hL σ H a cls d) (hs : X.stack = X.env :: X.outer) : Inv (X.suite a (X.pn ++ ps)) [] σ (upd H a (xo a cls d)) { s1 with heap := hL } := by
  obtain ⟨ob, vs, g, z, dt⟩ := Y.fly.there
  have J : Inv X ps σ (upd H a (xo a cls d)) { s1 with heap := hL } := Inv_held (oe := ob) (vs := vs) Y.inv Y.low Y.fly.1 Y.ups Y.os Y.bare Y.fly.2.1 (Y.notFrame hs) Y.na g z dt
  exact J.suiteH a
theorem clauses_ok (hs : X.stack = X.env :: X.outer) (hf : X.env.frame = some X.env.locals) (hN : X.N.Nodup) (tk : Takes X Wout) {D : Ends} (ok : X.Ok) : ∀ {hk : List ExceptHandler} {ls : List Hd}, HdsX X hk ls → ∀ {hL : Heap}, Land X ps B sI s1 hL σ H a cls d →
    wTry X.K Wout D ls cls d σ H → wpAny (model X.prog X.w) X.A (handleBy (.ref a) X.env hk) (L2.SP X ps D) X.xe { s1 with heap := hL } := by
  have ask : ∀ {hL : Heap} {x : Str} {np : Pos} {c : Value} {Q : Value → Shared → Prop} {E : Value → Shared → Prop}, Land X ps B sI s1 hL σ H a cls d → Names X x c → Q c { s1 with heap := hL } →
      wpAny (model X.prog X.w) (X.A.mark (some (.ref a))) (eval (.Name x np) X.env) Q E { s1 with heap := hL } := fun {hL x np c Q E} Y nm q => by
    have S := Y.plain.suiteH a
    rcases nm with ⟨g, nd, e | ⟨e, bt, nn⟩⟩
    · exact ld_glob (X := X.suite a (X.pn ++ ps)) S g e q nd
    · exact ld_blt (X := X.suite a (X.pn ++ ps)) S g e bt q nn nd
  have same : ∀ {hL : Heap} {c : Value} {b : Bool}, Land X ps B sI s1 hL σ H a cls d → PySem.W.exmOne X.K cls c = some b → PySem.W.Looks (model X.prog X.w) hL (excMatches (.ref a) c) b := fun {hL c b} Y e => by
    obtain ⟨ob, vs, g, z, dt⟩ := Y.fly.there
    exact PySem.W.exm_one Y.plain.kIn (fun A Q E s k q => wpAny_typeOf_ref (k _ _ g) (by rw [z.1]; exact q)) e
  intro hk ls hh
  induction hh with
  | nil =>
    intro hL Y w
    refine wpAny_handleBy_nil ?_
    obtain ⟨_, _, _, ob, vs, T, _, _, g, _, dt, tb1, _⟩ := id Y.fly
    have away : wpAny (model X.prog X.w) X.A (setFlight (.ref a) X.env.frame) (fun _ t => wpAny (model X.prog X.w) X.A (throw (.ref a) : Sem Flow) (L2.SP X ps D) X.xe t) X.xe { s1 with heap := hL } := by
      rw [hf]
      refine HandSPX.setFlight_upZ Y.fly fun hM hold up => wpAny_throw (tk _ _ ⟨a, B, sI, ps, σ, H, cls, d, rfl, Y.inv, Y.low, Y.ups.trans up, .inr (.inr ?_), Y.na, Y.os, Y.bare, w⟩)
      rw [hs]
      exact hold
    unfold PySem.passOn
    refine wpAny_bind (wpAny_field g dt tb1 ?_)
    rw [if_neg (by simp : ¬ ((Value.ref T == Value.none) = true))]
    first
      | exact wpAny_bind away
      | exact wpAny_bind (wpAny_pure (wpAny_bind away))
  | one nm su r next =>
    intro hL Y ⟨b, e, yes, no⟩
    refine wpAny_handleBy_cons (codeAny_handlers_test (ask Y nm ((same Y e).here ?_))) (by intro q; cases q)
    cases b with
    | false => exact next Y (no rfl)
    | true =>
      refine codeAny_handlers_suite (HandSPX.lands_againZ Y.fly fun hM fy up => ?_)
      exact wpAny_mono ((su a (X.pn ++ ps)).run [] _ _ _ _ ((Y.onward fy up).tracked hs) (yes rfl a Y.na)) (fun fl t z => sp_move (fun I => I.unsuiteH ok) z) fun _ _ z => z.elim
  | @as x n i c t b₀ suite np pos' hk2 ls2 nm hi ln su r next =>
    intro hL Y ⟨b, e, yes, no⟩
    refine wpAny_handleBy_cons (codeAny_handlers_test (ask Y nm ((same Y e).here ?_))) (by intro q; cases q)
    cases b with
    | false => exact next Y (no rfl)
    | true =>
      refine codeAny_handlers_suite_as (HandSPX.lands_againZ Y.fly fun hM fy up => ?_)
      refine store_ok (X := X.suite a (X.pn ++ ps)) (v := .ref a) ((Y.onward fy up).tracked hs) hN hi (.inl ln) rfl (fun t1 I1 => ?_) (.inr ln)
      refine wpAny_mono ((su a (X.pn ++ ps)).run [] t1 _ _ _ I1 (yes rfl a Y.na)) (fun fl t z => ?_) fun _ _ z => z.elim
      have bye : ∀ {τ : L2.St} {G : Hp} {Q : Shared → Prop}, Inv (X.suite a (X.pn ++ ps)) [] τ G t → (∀ t2, Inv X ps (τ.set i none) G t2 → Q t2) →
          wpAny (model X.prog X.w) X.A (do bindName X.env n .none; unbindBehindTheSuite X.env n pos') (fun _ t2 => Q t2) X.xe t := fun {τ G Q} I q => gone_ok (I.unsuiteH ok) hN hi ln q
      cases fl with
      | next => exact let ⟨_, _, I, q⟩ := z; bye I fun t2 J => ⟨_, _, J, q⟩
      | brk => exact let ⟨_, _, I, q⟩ := z; bye I fun t2 J => ⟨_, _, J, q⟩
      | cont => exact let ⟨_, _, I, q⟩ := z; bye I fun t2 J => ⟨_, _, J, q⟩
      | ret v => exact let ⟨_, _, _, I, rv, q⟩ := z; bye I fun t2 J => ⟨_, _, _, J, rv, q⟩
end
theorem ps_tryX (hs : X.stack = X.env :: X.outer) (hf : X.env.frame = some X.env.locals) (hN : X.N.Nodup) (tk : Takes X Wout)
    (hb : ∀ (W : WX) (pn : List (Addr × Obj)) (xe : Value → Shared → Prop), Takes (X.tr pn xe) W → PSs (X.tr pn xe) body (tb W))
    (hh : HdsX X (h₀ :: hds) l) (ho : PSs X orelse u) : PS X (.Try body (h₀ :: hds) orelse [] pos) (fun D σ H => tb (wTry X.K Wout D l) { D with nx := u D } σ H) := by
  refine ⟨fun ps s σ H D I h => wpAny_Try_except ?_⟩
  have ok := I.ok
  let air : Value → Shared → Prop := fun v t => wpAny (model X.prog X.w) X.A (noteFrame v X.env) (fun _ t2 => wpAny (model X.prog X.w) X.A (setFlight v none) (fun _ t3 =>
    wpAny (model X.prog X.w) X.A (handleBy v X.env (h₀ :: hds)) (L2.SP X ps D) X.xe t3) X.xe t2) X.xe t
  have takes : Takes (X.tr (X.pn ++ ps) air) (wTry X.K Wout D l) := fun v t fl => by
    obtain ⟨a, B, sI, ps', τ, G, cls, d, e, I', low, up, sky, na, os, bare, w⟩ := fl
    subst e
    have fr : X.A.frames = some (X.env :: X.outer) := ok.frames.trans (by rw [hs])
    have sk : Sky B (X.env :: X.outer) a (Zc cls d) X.env.locals t.heap := hs ▸ sky
    exact Sky.land Zc.steady fr hf sk fun hL fy up2 => clauses_ok hs hf hN tk ok hh ⟨I'.ofTry ok, low, fy, up.trans up2, os, bare, na⟩ w
  refine wpAny_mono ((hb _ _ air takes).run [] s σ H { D with nx := u D } (I.toTry _) h) (fun fl t z => ?_) fun _ _ z => z
  cases fl with
  | next => exact let ⟨_, _, J, q⟩ := z; ho.run ps t _ _ D (J.ofTry ok) q
  | brk => exact let ⟨τ, G, J, q⟩ := z; ⟨τ, G, J.ofTry ok, q⟩
  | cont => exact let ⟨τ, G, J, q⟩ := z; ⟨τ, G, J.ofTry ok, q⟩
  | ret v => exact let ⟨w, τ, G, J, rv, q⟩ := z; ⟨w, τ, G, J.ofTry ok, rv, q⟩
end
end Vz
namespace Vz
open PySem L2
abbrev noW : WX := fun _ _ _ _ => False
/-- an except clause -/
structure HdA where
  c : Str
  i : Option Nat
  m : MS
/-- (class of what is raised, class that the clause names), whether it takes it -/
abbrev XTab := List ((Str × Str) × Bool)
def pickH (tab : XTab) (c : Str) : List HdA → Option (Option HdA)
  | [] => some none
  | h :: r => match tab.lookup (c, h.c) with
    | some true => some (some h)
    | some false => pickH tab c r
    | none => none
def unA : Option Nat → En → En
  | none, ρ => ρ
  | some i, ρ => ρ.set i none
def inA : Option Nat → AV → En → En
  | none, _, ρ => ρ
  | some i, v, ρ => ρ.set i (some v)
/-- behind a suite -/
def outH (i : Option Nat) : SR → SR
  | .nx ρ G => .nx (unA i ρ) G
  | .bk ρ G => .bk (unA i ρ) G
  | .ct ρ G => .ct (unA i ρ) G
  | .rt v G => .rt v G
  | .exc _ _ _ _ => .stuck
  | .stuck => .stuck
def catchA (tab : XTab) (hs : List HdA) (c : Str) (d : XP) (ρ : En) (G : Hs) : SR := match pickH tab c hs with
  | some (some h) => outH h.i (h.m (inA h.i (.xv c d.1 d.2) ρ) G)
  | some none => .exc c d ρ G
  | none => .stuck
def mTry (tab : XTab) (mb : MS) (hs : List HdA) (mo : MS) : MS := fun ρ G => match mb ρ G with
  | .nx ρ1 G1 => mo ρ1 G1
  | .exc c d ρ1 G1 => catchA tab hs c d ρ1 G1
  | r => r
/-- a clause's class: an own one, or a built-in -/
def hcV (bs : List Str) (K : PySem.W.Frag) (x : Str) : Value := if x ∈ bs then .type x.toString else .ref (ga K x)
def exTab (bs : List Str) (tab : XTab) (K : PySem.W.Frag) : Bool := tab.all fun q => decide (PySem.W.exmOne K (.ref (ga K q.1.1)) (hcV bs K q.1.2) = some q.2)
inductive SHds (bs : List Str) (X : Cx) : List ExceptHandler → List HdA → Prop
  | nil : SHds bs X [] []
  | one {x : Str} {m : MS} {b₀ : Stmt} {suite : List Stmt} {np pos' : Pos} {hds : List ExceptHandler} {l : List HdA} (hc : Names X x (hcV bs X.K x))
      (hsu : ∀ (a : Addr) (pn : List (Addr × Obj)), SSs (X.suite a pn) noW (b₀ :: suite) m) (r : SHds bs X hds l) : SHds bs X (.ExceptHandler (some (.Name x np)) none (b₀ :: suite) pos' :: hds) (⟨x, none, m⟩ :: l)
  | as {x n : Str} {i : Nat} {m : MS} {b₀ : Stmt} {suite : List Stmt} {np pos' : Pos} {hds : List ExceptHandler} {l : List HdA} (hc : Names X x (hcV bs X.K x)) (hi : X.N[i]? = some n) (hln : X.env.kindOf n = some .local)
      (hsu : ∀ (a : Addr) (pn : List (Addr × Obj)), SSs (X.suite a pn) noW (b₀ :: suite) m) (r : SHds bs X hds l) : SHds bs X (.ExceptHandler (some (.Name x np)) (some n) (b₀ :: suite) pos' :: hds) (⟨x, some i, m⟩ :: l)
def HdA.hd (bs : List Str) (K : PySem.W.Frag) (h : HdA) : Hd := ⟨hcV bs K h.c, h.i, tS K noW h.m⟩
theorem SHds.hx {bs : List Str} {X : Cx} {hds : List ExceptHandler} {l : List HdA} (h : SHds bs X hds l) : HdsX X hds (l.map (HdA.hd bs X.K)) := by
  induction h with
  | nil => exact .nil
  | one hc hsu r ih => exact .one hc hsu ih
  | as hc hi hln hsu r ih => exact .as hc hi hln hsu ih
theorem RS.in_ {K : PySem.W.Frag} {H : Hp} {μ : Mu} {ρ : En} {σ : St} (h : RS K H μ ρ σ) {i : Option Nat} {v : AV} {a : Addr} (r : RA K H μ v (.ref a)) : RS K H μ (inA i v ρ) (inN i a σ) := by
  cases i with
  | none => exact h
  | some i => exact h.set r
theorem RS.un {K : PySem.W.Frag} {H : Hp} {μ : Mu} {ρ : En} {σ : St} (h : RS K H μ ρ σ) (i : Nat) : RS K H μ (ρ.set i none) (σ.set i none) := h.unset
/-- the exception as a value -/
theorem xv_ra {K : PySem.W.Frag} {H : Hp} {μ : Mu} {G : Hs} (hG : RH K H μ G) {c : Str} {d : XP} {a : Addr} {dd : Option Addr} (na : H a = none) (hd : RD K H μ d dd) : RA K (upd H a (xo a (.ref (ga K c)) dd)) μ (.xv c d.1 d.2) (.ref a) := by
  cases dd with
  | none =>
    obtain ⟨ns, xs⟩ := d
    have e : (ns, xs) = ([], []) := hd
    cases e
    exact .xv0 upd_same (hG.nmem na)
  | some dx =>
    obtain ⟨gs, h1, h2, h3, h4⟩ := hd
    exact .xv upd_same (hG.nmem na) (by rw [upd_ne (ne_of_none h1 na)]; exact h1) h2 h3 (h4.gr (Gr.new na))
theorem out_ok {K : PySem.W.Frag} {W : WX} {D : Ends} {H : Hp} {μ : Mu} {i : Option Nat} {r : SR} (h : PoS K W D H μ (outH i r)) : PoS K noW (unN i D) H μ r := by
  cases i with
  | none =>
    cases r with
    | exc c d ρ G => exact h.elim
    | _ => exact h
  | some i =>
    cases r with
    | nx ρ G => exact fun H' μ' σ' g hG hσ => h H' μ' (σ'.set i none) g hG (hσ.un i)
    | bk ρ G => exact fun H' μ' σ' g hG hσ => h H' μ' (σ'.set i none) g hG (hσ.un i)
    | ct ρ G => exact fun H' μ' σ' g hG hσ => h H' μ' (σ'.set i none) g hG (hσ.un i)
    | rt v G => exact h
    | exc c d ρ G => exact h.elim
    | stuck => exact h
theorem catch_ok {bs : List Str} {tab : XTab} {K : PySem.W.Frag} {W : WX} {D : Ends} (hT : exTab bs tab K = true) {c : Str} {d : XP} {ρ : En} {G : Hs} {H : Hp} {μ : Mu} {σ : St} {dd : Option Addr} (hG : RH K H μ G) (hσ : RS K H μ ρ σ) (hd : RD K H μ d dd) :
    ∀ hs : List HdA, PoS K W D H μ (catchA tab hs c d ρ G) → wTry K W D (hs.map (HdA.hd bs K)) (.ref (ga K c)) dd σ H
  | [], h => h H μ σ dd (Gr.refl _ _) hG hσ hd
  | x :: r, h => by
    have look : ∀ b, tab.lookup (c, x.c) = some b → PySem.W.exmOne K (.ref (ga K c)) (hcV bs K x.c) = some b := fun b e => of_decide_eq_true (List.all_eq_true.mp hT _ (lookup_mem' e))
    unfold catchA pickH at h
    cases e : tab.lookup (c, x.c) with
    | none => rw [e] at h; exact h.elim
    | some b =>
      rw [e] at h
      refine ⟨b, look b e, fun hb a na => ?_, fun hb => ?_⟩
      · subst hb
        exact ⟨_, _, _, (hσ.gr (Gr.new na)).in_ (xv_ra hG na hd), hG.new na, (out_ok h).gr (Gr.new na)⟩
      · subst hb
        exact catch_ok hT hG hσ hd r h
section
variable {X : Cx} {W : WX} {body orelse : List Stmt} {h₀ : ExceptHandler} {hds : List ExceptHandler} {l : List HdA} {pos : Pos} {mb mo : MS} {bs : List Str} {tab : XTab}
theorem ss_try (hT : exTab bs tab X.K = true) (hs : X.stack = X.env :: X.outer) (hf : X.env.frame = some X.env.locals) (hN : X.N.Nodup) (tk : Takes X W)
    (hb : ∀ (W' : WX) (pn : List (Addr × Obj)) (xe : Value → Shared → Prop), Takes (X.tr pn xe) W' → SSs (X.tr pn xe) W' body mb)
    (hh : SHds bs X (h₀ :: hds) l) (ho : SSs X W orelse mo) : SS X W (.Try body (h₀ :: hds) orelse [] pos) (mTry tab mb l mo) := by
  refine PS.imp (ps_tryX (tb := fun W' => tS X.K W' mb) hs hf hN tk hb hh.hx ho) fun D σ H ⟨ρ, μ, G, hσ, hG, h⟩ => ⟨ρ, μ, G, hσ, hG, ?_⟩
  unfold mTry at h
  cases e : mb ρ G with
  | nx ρ1 G1 =>
    rw [e] at h
    exact fun H' μ' σ' g hG' hσ' => ⟨ρ1, μ', G1, hσ', hG', PoS.gr g h⟩
  | rt v G1 => rw [e] at h; exact h
  | bk ρ1 G1 => rw [e] at h; exact h
  | ct ρ1 G1 => rw [e] at h; exact h
  | exc c d ρ1 G1 =>
    rw [e] at h
    exact fun H' μ' σ' dd g hG' hσ' hd => catch_ok hT hG' hσ' hd l (PoS.gr g h)
  | stuck => rw [e] at h; exact h
end
section
variable {D : SP} {ρ : En} {G : Hs} {tab : XTab} {hs : List HdA} {mb mo : MS}
@[simp] theorem wp_outH (i : Option Nat) (r : SR) : (outH i r).wp D = r.wp { nx := fun ρ G => D.nx (unA i ρ) G, rt := D.rt, bk := fun ρ G => D.bk (unA i ρ) G, ct := fun ρ G => D.ct (unA i ρ) G, ex := fun _ _ _ => False } := by
  cases r <;> rfl
/-- the exceptional end of a statement, with its names -/
def SR.wpx (r : SR) (D : SP) (E : Str → XP → En → Hs → Prop) : Prop := match r with
  | .nx ρ G => D.nx ρ G
  | .rt v G => D.rt v G
  | .bk ρ G => D.bk ρ G
  | .ct ρ G => D.ct ρ G
  | .exc c d ρ G => E c d ρ G
  | .stuck => False
theorem wp_try : (mTry tab mb hs mo ρ G).wp D = (mb ρ G).wpx { D with nx := fun ρ G => (mo ρ G).wp D } (fun c d ρ G => (catchA tab hs c d ρ G).wp D) := by
  unfold mTry
  cases mb ρ G <;> rfl
@[simp] theorem wpx_seq (s1 s2 : MS) (E : Str → XP → En → Hs → Prop) : (mSeq s1 s2 ρ G).wpx D E = (s1 ρ G).wpx { D with nx := fun ρ G => (s2 ρ G).wpx D E } E := by
  unfold mSeq
  cases s1 ρ G <;> rfl
@[simp] theorem wpx_nx (E : Str → XP → En → Hs → Prop) : (mNx ρ G).wpx D E = D.nx ρ G := rfl
@[simp] theorem wpx_toS {α : Type} (r : R α) (k : α → Hs → SR) (E : Str → XP → En → Hs → Prop) : (r.toS ρ k).wpx D E = r.wp (fun v G => (k v G).wpx D E) (fun c d G => E c d ρ G) := by cases r <;> rfl
@[simp] theorem wpx_drop (m : ME) (E : Str → XP → En → Hs → Prop) : (mDrop m ρ G).wpx D E = (m ρ G).wp (fun _ G => D.nx ρ G) (fun c d G => E c d ρ G) := wpx_toS _ _ _
@[simp] theorem wpx_ret (m : ME) (E : Str → XP → En → Hs → Prop) : (mRet m ρ G).wpx D E = (m ρ G).wp (fun v G => D.rt v G) (fun c d G => E c d ρ G) := wpx_toS _ _ _
@[simp] theorem wpx_asg (m : ME) (i : Nat) (E : Str → XP → En → Hs → Prop) : (mAsg m (gNm i) ρ G).wpx D E = (m ρ G).wp (fun v G => D.nx (ρ.set i (some v)) G) (fun c d G => E c d ρ G) := wpx_toS _ _ _
theorem swpx_ite {c : Prop} [Decidable c] (a b : SR) (E : Str → XP → En → Hs → Prop) : (if c then a else b).wpx D E = if c then a.wpx D E else b.wpx D E := by split <;> rfl
@[simp] theorem wpx_if (t : MB) (s1 s2 : MS) (E : Str → XP → En → Hs → Prop) : (mIf t s1 s2 ρ G).wpx D E = (t ρ G).wp (fun k G => if k = true then (s1 ρ G).wpx D E else (s2 ρ G).wpx D E) (fun c d G => E c d ρ G) := by
  unfold mIf
  rw [wpx_toS]
  congr 1
  funext k G
  exact swpx_ite _ _ _
end
end Vz
namespace Vz
open PySem PySem.Spec L2
open PyProof.Rows (AllBare)
def XKind (bm : List Value) (n : String) : Prop := (HandSPX.refsVE bm = true ∧ n = "ValueError.__new__") ∨ (bm = ESX.exTail ∧ n = "Exception.__new__")
def xkB (bm : List Value) (n : String) : Bool := (HandSPX.refsVE bm && decide (n = "ValueError.__new__")) || (decide (bm = ESX.exTail) && decide (n = "Exception.__new__"))
theorem xkB_ok {bm : List Value} {n : String} (h : xkB bm n = true) : XKind bm n := by
  unfold xkB at h
  simp only [Bool.or_eq_true, Bool.and_eq_true, decide_eq_true_eq] at h
  exact h
def xcB (K : PySem.W.Frag) (C : Addr) : Bool := match K.lookup C with
  | some ⟨.type "type", _, .cls cd, sl⟩ => match cd.mro, sl.toList with
    | .ref C' :: bm, [_, _, _, _, some (.builtin n), _] => decide (C' = C) && (!cd.hasDel && (cd.hasDict && xkB bm n))
    | _, _ => false
  | _ => false
structure XC (K : PySem.W.Frag) (C : Addr) : Prop where
  cls : ∃ nm q N bs bm sn sub ab col dd k0 k1 k2 k3 k5 n, K.lookup C = some (excClassObj nm q C N bs bm true sn sub ab col dd k0 k1 k2 k3 k5 n) ∧ XKind bm n
  sa : PySem.W.findIn K (.ref C) "__setattr__" = some (some (.builtin "object.__setattr__"))
  exC : PySem.W.subIn K (.ref C) (.type "BaseException") = some true
  tyC : PySem.W.typeIn K (.ref C) = some (.type "type")
  kC : PySem.W.keepIn K (.ref C) = true
theorem xcB_ok {K : PySem.W.Frag} {C : Addr} (h : xcB K C = true) : ∃ nm q N bs bm sn sub ab col dd k0 k1 k2 k3 k5 n, K.lookup C = some (excClassObj nm q C N bs bm true sn sub ab col dd k0 k1 k2 k3 k5 n) ∧ XKind bm n := by
  unfold xcB at h
  split at h
  · rename_i dd cd sl lk
    split at h
    · rename_i C2 bm k0 k1 k2 k3 n k5 em es
      obtain ⟨h1, h⟩ := He.ba h
      obtain ⟨h2, h⟩ := He.ba h
      obtain ⟨h3, h4⟩ := He.ba h
      obtain ⟨nm, bs, mro, ns, qn, hd, sn, sub, ab, col, dl⟩ := cd
      cases sl with
      | mk l =>
        have e1 : C2 = C := of_decide_eq_true h1
        have e2 : dl = false := by simpa using h2
        have e3 : hd = true := h3
        simp only at em es
        subst e1 e2 e3 em es
        exact ⟨nm, qn, ns, bs, bm, sn, sub, ab, col, dd, k0, k1, k2, k3, k5, n, lk, xkB_ok h4⟩
    · cases h
  · cases h
def xcA (C : Addr) (K : PySem.W.Frag) : Bool := xcB K C && (decide (PySem.W.findIn K (.ref C) "__setattr__" = some (some (.builtin "object.__setattr__"))) && (decide (PySem.W.subIn K (.ref C) (.type "BaseException") = some true) &&
  (decide (PySem.W.typeIn K (.ref C) = some (.type "type")) && PySem.W.keepIn K (.ref C))))
theorem xcA_ok {K : PySem.W.Frag} {C : Addr} (h : xcA C K = true) : XC K C := by
  obtain ⟨h1, h⟩ := He.ba h
  obtain ⟨h2, h⟩ := He.ba h
  obtain ⟨h3, h⟩ := He.ba h
  obtain ⟨h4, h5⟩ := He.ba h
  exact ⟨xcB_ok h1, of_decide_eq_true h2, of_decide_eq_true h3, of_decide_eq_true h4, h5⟩
section
variable {X : Cx} {pins : List (Addr × Obj)} {σ : St} {H : Hp} {s : Shared} {a C dx : Addr} {f : Str} {y : V} {u : Value} {fs : List (Str × V)} {Q : Unit → Shared → Prop} {E : Value → Shared → Prop} {A : Around}
abbrev xcd (nm q : Str) (C N : Addr) (bs bm : List Value) (sn : List Str) (sub : List Value) (ab : Bool) (col : Option Bool) : ClassData :=
  { name := nm, bases := bs, mro := .ref C :: bm, ns := N, qualname := q, hasDict := true, slotNames := sn, subclasses := sub, abstract := ab, collection := col, hasDel := false }
theorem first_put (T : XC X.K C) (I : Inv X pins σ H s) (e : H a = some (exo a C none)) (no : PySem.W.findIn X.K (.ref C) f = some none) (ry : RelV y u)
    (h : ∀ dx t, H dx = none → dx ≠ a → Inv X pins σ (upd (upd H dx (exd dx [(f, y)])) a (exo a C (some dx))) t → Q () t) : wpAny (model X.prog X.w) A (setAttr (.ref a) f u) Q E s := by
  obtain ⟨nm, q, N, bs, bm, sn, sub, ab, col, dd, k0, k1, k2, k3, k5, n, lk, kind⟩ := T.cls
  have cl : PySem.W.clsIn X.K C = some (xcd nm q C N bs bm sn sub ab col) := by unfold PySem.W.clsIn; rw [lk] <;> rfl
  obtain ⟨t1, at1⟩ := exo_at I.hok e
  obtain ⟨hp, g, d, tk, os⟩ := s
  have end_ : ∀ (h2 : Heap) (tk2 dx : Nat), (∀ b o, b ≠ a → hp.get? b = some o → h2.get? b = some o) → hp.objs.size ≤ dx → dx ≠ a → h2.get? a = some ({ cls := .ref C, dict := some dx, data := .fields #[.ref t1, .none, .none, .none, .bool false, .none] } : Obj) →
      h2.Ns1 dx (fun z => if z = f then some u else none) → Q () ⟨h2, g, d, tk2, os⟩ := fun h2 tk2 dx keep new ne ga ns => by
    have free : H dx = none := I.hok.fresh new
    have low : ∀ {b : Addr} {o : Obj}, hp.get? b = some o → b ≠ dx := fun {b o} z => Nat.ne_of_lt (Nat.lt_of_lt_of_le (Heap.lt_size z) new)
    have off : ∀ {b : Addr}, H b = none → b ≠ a := fun {b} z w => by rw [w, e] at z; cases z
    have U : Un X.fs [] H (upd (upd H dx (exd dx [(f, y)])) a (exo a C (some dx))) hp h2 := {
      keep := fun b o z n _ _ => keep b o (off n) z
      slot := fun b o z n _ _ => ⟨o.slots, keep b o (off n) z⟩
      free := fun b o z n _ => (upd_ne (off n)).trans ((upd_ne (low z)).trans n)
      there := fun b o z _ => (Classical.em (b = a)).elim (fun w => ⟨_, w ▸ ga⟩) fun w => ⟨o, keep b o w z⟩
      tups := fun b xs z => (upd_ne (at_ne e z exo_tup)).trans ((upd_ne (ne_of_none z free)).trans z)
      frzs := fun b o v z => (upd_ne (at_ne e z exo_frz)).trans ((upd_ne (ne_of_none z free)).trans z)
      tbls := fun b ps z => ⟨#[], by rw [upd_ne (at_ne e z exo_tbl), upd_ne (ne_of_none z free), z, Array.append_empty]⟩ }
    refine h dx _ free ne (I.un (t' := tk2) U fun b o z => ?_)
    by_cases w1 : b = a
    · rw [w1, upd_same] at z
      cases z
      rw [w1]
      exact exo_ok ga
    rw [upd_ne w1] at z
    by_cases w2 : b = dx
    · rw [w2, upd_same] at z
      cases z
      rw [w2]
      exact exd_ok ns (relO_put (fs := []) ry fun _ => trivial)
    rw [upd_ne w2] at z
    refine (I.hok b o z).stay (fun c v m gt => keep c v (fun w => ?_) gt) (fun c m => ?_) fun c xs m => ?_
    · rcases m with m | m
      · exact w1 (m.symm.trans w)
      · exact at_ne e m exo_own w
    · rw [upd_ne (at_ne e m exo_own), upd_ne (ne_of_none m free)]
      exact m
    · rw [upd_ne (at_ne e m exo_tup), upd_ne (ne_of_none m free)]
      exact m
  refine PySem.W.set_plain I.kIn (ox := { cls := .ref C, dict := none, data := .fields #[.ref t1, .none, .none, .none, .bool false, .none] }) (od := none) ⟨at1, rfl, rfl, trivial⟩ T.sa ?_
  rcases kind with ⟨k, _⟩ | ⟨k, _⟩
  · exact HandSPX.exc_osa I.kIn at1 cl (show HandSPX.refsVE (.ref C :: bm) = true from k) rfl no end_
  · exact ESX.osa_new I.kIn at1 cl (congrArg (Value.ref C :: ·) k) rfl no end_
theorem next_put (T : XC X.K C) (I : Inv X pins σ H s) (e : H a = some (exo a C (some dx))) (ed : H dx = some (exd dx fs)) (hl : fs.length ≤ 900) (no : PySem.W.findIn X.K (.ref C) f = some none) (ry : RelV y u)
    (h : ∀ t, Inv X pins σ (upd H dx (exd dx ((f, y) :: fs))) t → Q () t) : wpAny (model X.prog X.w) A (setAttr (.ref a) f u) Q E s := by
  obtain ⟨nm, q, N, bs, bm, sn, sub, ab, col, dd, k0, k1, k2, k3, k5, n, lk, kind⟩ := T.cls
  have cl : PySem.W.clsIn X.K C = some (xcd nm q C N bs bm sn sub ab col) := by unfold PySem.W.clsIn; rw [lk] <;> rfl
  obtain ⟨t1, at1⟩ := exo_at I.hok e
  obtain ⟨mA, ns, rel⟩ := exd_at I.hok ed
  have win := within_of rel
  obtain ⟨hp, g, d, tk, os⟩ := s
  obtain ⟨od, _, _, atd, _, _⟩ := ns.count win
  have few : (fs.map (·.1)).length ≤ 1000 := by rw [List.length_map]; omega
  have end_ : ∀ (h2 : Heap) (tk2 : Nat), (∀ b o, b ≠ dx → hp.get? b = some o → h2.get? b = some o) → h2.Ns1 dx (fun z => if z = f then some u else mA z) → Q () ⟨h2, g, d, tk2, os⟩ := fun h2 tk2 keep ns2 => by
    have there : ∃ o, h2.get? dx = some o := let ⟨o, _, _, z, _⟩ := ns2; ⟨o, z⟩
    exact h _ (I.write (t' := tk2) (x := dx) (e := dx) (o := exd dx ((f, y) :: fs)) (by rw [ed]; trivial) (.inl rfl) keep there (exd_ok ns2 (relO_put ry rel)))
  refine PySem.W.set_plain I.kIn (ox := { cls := .ref C, dict := some dx, data := .fields #[.ref t1, .none, .none, .none, .bool false, .none] }) (od := some od) ⟨at1, rfl, rfl, atd⟩ T.sa ?_
  rcases kind with ⟨k, _⟩ | ⟨k, _⟩
  · exact OEX.osa_old I.kIn at1 ns win few cl (show HandSPX.refsVE (.ref C :: bm) = true from k) rfl no end_
  · exact ESX.osa_old I.kIn at1 ns win few cl (congrArg (Value.ref C :: ·) k) rfl no end_
end
/-- self.f = e within such an __init__ -/
def tPut (K : PySem.W.Frag) (C : Addr) (f : Str) (to te : TE) : TS := fun D σ H => te σ H fun y H1 => to σ H1 fun x H2 => ∃ a : Addr, x = .ref a ∧
  ((H2 a = some (exo a C none) ∧ ∀ dx, H2 dx = none → dx ≠ a → D.nx σ (upd (upd H2 dx (exd dx [(f, y)])) a (exo a C (some dx)))) ∨
    ∃ (dx : Addr) (fs : List (Str × V)), H2 a = some (exo a C (some dx)) ∧ H2 dx = some (exd dx fs) ∧ fs.length ≤ 900 ∧ D.nx σ (upd H2 dx (exd dx ((f, y) :: fs))))
theorem ps_put {X : Cx} {C : Addr} {o e : Expr} {to te : TE} {f : Str} {p' pos : Pos} (T : XC X.K C) (no : PySem.W.findIn X.K (.ref C) f = some none) (ho : PE X o to) (he : PE X e te) (hs : swapsWith e (some (.Attribute o f p')) pos.line X.env = pure false := by rfl) :
    PS X (.Assign [.Attribute o f p'] e pos) (tPut X.K C f to te) := by
  refine ⟨fun pins s σ H D I h => plainObj_wpAny_Assign_Attribute (thn (he.run pins s σ H _ I h) fun v s1 ⟨y, H1, I1, r1, q1⟩ => thn (ho.run pins s1 σ H1 _ I1 q1) fun z s2 ⟨x, H2, I2, r2, a, ex, q⟩ => ?_) hs⟩
  subst ex
  cases (show z = Value.ref a from r2)
  rcases q with ⟨ea, q⟩ | ⟨dx, fs, ea, ed, hl, q⟩
  · exact first_put T I2 ea no r1 fun dx t n ne J => ⟨σ, _, J, q dx n ne⟩
  · exact next_put T I2 ea ed hl no r1 fun t J => ⟨σ, _, J, q⟩
inductive OstB (X : Cx) : List Stmt → List (Str × Nat) → Prop
  | nil : OstB X [] []
  | cons {o e : Expr} {f : Str} {i : Nat} {p' pos : Pos} {body : List Stmt} {fl : List (Str × Nat)} (ho : PE X o (tVar 0)) (he : PE X e (tVar i)) (r : OstB X body fl) (hs : swapsWith e (some (.Attribute o f p')) pos.line X.env = pure false := by rfl) :
      OstB X (.Assign [.Attribute o f p'] e pos :: body) ((f, i) :: fl)
def tPuts (K : PySem.W.Frag) (C : Addr) : List (Str × Nat) → TS
  | [] => tNext
  | p :: r => tSeq (tPut K C p.1 (tVar 0) (tVar p.2)) (tPuts K C r)
def noAt (K : PySem.W.Frag) (C : Addr) (fl : List (Str × Nat)) : Bool := fl.all fun p => decide (PySem.W.findIn K (.ref C) p.1 = some none)
theorem OstB.pss {X : Cx} {C : Addr} (T : XC X.K C) {body : List Stmt} {fl : List (Str × Nat)} (h : OstB X body fl) (no : noAt X.K C fl = true) : PSs X body (tPuts X.K C fl) := by
  induction h with
  | nil => exact pss_nil
  | cons ho he r hs ih =>
    obtain ⟨n1, n2⟩ := He.ba no
    exact pss_cons (ps_put T (of_decide_eq_true n1) ho he hs) (ih n2)
def vfs (fl : List (Str × Nat)) (vs : List V) (fs : List (Str × V)) : List (Str × V) := (fl.map fun p => (p.1, vs.getD p.2 .non)).reverse ++ fs
theorem vfs_cons {p : Str × Nat} {fl : List (Str × Nat)} {vs : List V} {fs : List (Str × V)} : vfs (p :: fl) vs fs = vfs fl vs ((p.1, vs.getD p.2 .non) :: fs) := by
  unfold vfs
  rw [List.map_cons, List.reverse_cons, List.append_assoc, List.singleton_append]
theorem start_at {N : List Str} {vs : List V} {i : Nat} (h : i < vs.length) : (start N vs)[i]? = some (some (vs.getD i .non)) := by
  unfold L2.start
  rw [List.getElem?_append_left (by simpa using h), List.getElem?_map, List.getElem?_eq_getElem h, List.getD_eq_getElem?_getD, List.getElem?_eq_getElem h]
  rfl
theorem puts_on {K : PySem.W.Frag} {C a dx : Addr} {vs : List V} {N : List Str} {D : Ends} (ne : dx ≠ a) (h0 : vs.getD 0 .non = .ref a) (hp : 0 < vs.length) : ∀ (fl : List (Str × Nat)) (fs : List (Str × V)) (H : Hp), (∀ p ∈ fl, p.2 < vs.length) → fs.length + fl.length ≤ 900 →
    H a = some (exo a C (some dx)) → H dx = some (exd dx fs) → (∀ H2, H2 = upd H dx (exd dx (vfs fl vs fs)) → D.nx (start N vs) H2) → tPuts K C fl D (start N vs) H
  | [], fs, H, _, _, ea, ed, q => q H (by funext b; by_cases e : b = dx; (· rw [e, upd_same, ed]; rfl); (· rw [upd_ne e]))
  | p :: fl, fs, H, hl, hn, ea, ed, q => by
    have hn2 : fs.length + (fl.length + 1) ≤ 900 := hn
    refine ⟨_, start_at (hl p (List.mem_cons_self ..)), _, start_at hp, a, h0, .inr ⟨dx, fs, ea, ed, by omega, ?_⟩⟩
    refine puts_on ne h0 hp fl _ _ (fun r m => hl r (List.mem_cons_of_mem _ m)) (by rw [List.length_cons]; omega) (by rw [upd_ne ne.symm]; exact ea) upd_same fun H2 e => q H2 ?_
    rw [e, upd_upd, vfs_cons]
/-- the promise of such an __init__ -/
def xsp (C : Addr) (fl : List (Str × Nat)) (n : Nat) : Sp := fun vs H Q _ => vs.length = n ∧ ∃ a, vs.getD 0 .non = .ref a ∧ H a = some (exo a C none) ∧ ∀ dx, H dx = none → dx ≠ a → Q .non (upd (upd H dx (exd dx (vfs fl vs []))) a (exo a C (some dx)))
theorem fn_x {P : Program} {w : World} {K : PySem.W.Frag} {mg : Str → Option Value} {base : Heap} {x qual : Str} {params : Arguments} {body : List Stmt} {scope : Scope} {dvs : List V} {kws : List (Str × V)} {f C : Addr} {fd : FuncData} {N ps : List Str} {k : Nat} {fl : List (Str × Nat)}
    (Fn : FunD K x qual params body scope dvs kws f fd) (S : FnScope N ps scope) (T : XC K C) (no : noAt K C fl = true) (h0 : (!fl.isEmpty && (decide (0 < ps.length) && (decide (fl.length ≤ 900) && fl.all fun p => decide (p.2 < ps.length)))) = true)
    (hb : ∀ (cdv : Value) (A : Around) (outer : List Env) (s : Shared) (H : Hp) (E : XK), OstB (cxOf (CX P w) P w K mg base N qual scope f cdv A outer s H E) body fl) :
    FnG P w K mg base (CX P w) (k + 1) f fd ps (xsp C fl ps.length) := by
  obtain ⟨b1, h0⟩ := He.ba h0
  obtain ⟨b2, h0⟩ := He.ba h0
  obtain ⟨b3, b4⟩ := He.ba h0
  refine fnG_of Fn S (fun vs H Q E h => h.1) fun cdv A outer s H vs Q E hr ⟨hl, a, e0, ea, q⟩ => ⟨_, (hb cdv A outer s H E).pss T no, ?_⟩
  cases fl with
  | nil => cases b1
  | cons p fl =>
    have hp : 0 < vs.length := by rw [hl]; exact of_decide_eq_true b2
    have h9 : fl.length + 1 ≤ 900 := of_decide_eq_true b3
    have hi : ∀ r ∈ p :: fl, r.2 < vs.length := fun r m => by rw [hl]; exact of_decide_eq_true (List.all_eq_true.mp b4 r m)
    refine ⟨_, start_at (hi p (List.mem_cons_self ..)), _, start_at hp, a, e0, .inl ⟨ea, fun dx n ne => ?_⟩⟩
    refine puts_on ne e0 hp fl [(p.1, vs.getD p.2 .non)] _ (fun r m => hi r (List.mem_cons_of_mem _ m)) (by show 0 + 1 + fl.length ≤ 900; omega) upd_same (by rw [upd_ne ne, upd_same]) fun H2 e => ?_
    have e2 : H2 = upd (upd H dx (exd dx (vfs (p :: fl) vs []))) a (exo a C (some dx)) := by
      rw [e, vfs_cons]
      funext b
      by_cases w1 : b = dx
      · rw [w1, upd_same, upd_ne ne, upd_same]
      · rw [upd_ne w1]
        by_cases w2 : b = a
        · rw [w2, upd_same, upd_same]
        · rw [upd_ne w2, upd_ne w2, upd_ne w1, upd_ne w1]
    exact e2 ▸ q dx n ne
end Vz
namespace Vz
open PySem PySem.Spec L2
open PyProof.Rows (AllBare)
section
variable {X : Cx} {W : WX} {e : Expr} {es : List Expr} {ta : TA} {ms : MEs} {x : Str} {C fI : Addr} {k : Nat} {fd : FuncData} {ps : List Str} {fl : List (Str × Nat)} {p pos : Pos}
/-- C(e, ..): what stands then -/
def tMkX (C : Addr) (fl : List (Str × Nat)) (n : Nat) (ta : TA) : St → Hp → XK → Prop := fun σ H Q => ta σ H fun vs H1 => vs.length + 1 = n ∧ n ≤ 1000 ∧ ∀ d, H1 d = none → Q (.ref C) (some d) (upd H1 d (.xd (vfs fl (.non :: vs) [])))
theorem vfs_self {vs : List V} {a : V} (h : fl.all (fun q => decide (0 < q.2)) = true) : vfs fl (a :: vs) [] = vfs fl (.non :: vs) [] := by
  unfold vfs
  congr 2
  refine List.map_congr_left fun q m => ?_
  have := of_decide_eq_true (List.all_eq_true.mp h q m)
  obtain ⟨f, i⟩ := q
  cases i with
  | zero => cases this
  | succ i => rfl
theorem pmk_x (T : XC X.K C) (iC : PySem.W.findIn X.K (.ref C) "__init__" = some (some (.ref fI))) (tI : PySem.W.typeIn X.K (.ref fI) = some (.type "function")) (F1 : FnG X.prog X.w X.K X.mg X.base (CX X.prog X.w) k fI fd ps (xsp C fl ps.length))
    (hr : Rm (k + 1) X.A) (hb : Binds X.K fd ps []) (hi : fl.all (fun q => decide (0 < q.2)) = true) (hg : Gl X x) (hm : X.mg x = some (.ref C)) (ha : PA X (e :: es) ta)
    (hdb : (x == ("__debug__" : Str)) = false := by decide) (he : starEach (e :: es) X.env = (false, eval e X.env) :: starEach es X.env := by rfl) (hpl : (backTo pos (starEach es X.env)).any (·.1) = false := by rfl) :
    PMk X (.Call (.Name x p) (e :: es) [] pos) (tMkX C fl ps.length ta) := by
  intro pins s σ H Q I h
  obtain ⟨nm, q, N, bs, bm, sn, sub, ab, col, dd, k0, k1, k2, k3, k5, n, lk, kind⟩ := T.cls
  refine wpAny_Call_Name_kw (ld_glob I hg hm ?_ hdb)
  refine PySem.W.callWith_K (h₀ := X.base) I.ok.mod.kin T.kC (thn (ha.run pos pins s σ H _ I h) fun us s1 ⟨vs, H1, I1, r1, hn, hz, q1⟩ => ⟨I1.kIn, ?_⟩) he hpl
  show wpAny _ _ (call (.ref C) us) _ _ _
  obtain ⟨hp, g, dr, tk, os⟩ := s1
  have up1 : hp.objs.size ≤ hp.objs.size + 1 := Nat.le_succ _
  have free : H1 (hp.objs.size + 1) = none := I1.hok.fresh up1
  have keep : ∀ b o, hp.get? b = some o → ((hp.push (PySem.W.kdv_tup us)).push (HandSPX.excO C hp.objs.size)).get? b = some o := fun b o z => Heap.get?_push_of_some _ (Heap.get?_push_of_some _ z)
  have new : ((hp.push (PySem.W.kdv_tup us)).push (HandSPX.excO C hp.objs.size)).get? (hp.objs.size + 1) = some (HandSPX.excO C hp.objs.size) := by heap_get
  have I2 : Inv X pins σ (upd H1 (hp.objs.size + 1) (exo (hp.objs.size + 1) C none)) ⟨(hp.push (PySem.W.kdv_tup us)).push (HandSPX.excO C hp.objs.size), g, dr, tk, os⟩ :=
    I1.laid (t' := tk) (a := hp.objs.size + 1) (o := exo (hp.objs.size + 1) C none) (h' := (hp.push (PySem.W.kdv_tup us)).push (HandSPX.excO C hp.objs.size)) keep up1 (exo_ok new)
  have r2 : Vals (V.ref (hp.objs.size + 1) :: vs) (Value.ref (hp.objs.size + 1) :: us) := .cons rfl r1
  have len : (V.ref (hp.objs.size + 1) :: vs).length = ps.length := hn
  have lenU : (Value.ref (hp.objs.size + 1) :: us).length = ps.length := r2.length.symm.trans len
  have room : us.length ≤ sizeLine := by
    have := r1.length
    rw [sizeLine_eq]
    omega
  -- what the __init__ leaves
  let End : VK := fun v H2 => v = .non ∧ ∃ d, d ≠ hp.objs.size + 1 ∧ H1 d = none ∧ H2 = upd (upd (upd H1 (hp.objs.size + 1) (exo (hp.objs.size + 1) C none)) d (exd d (vfs fl (.non :: vs) []))) (hp.objs.size + 1) (exo (hp.objs.size + 1) C (some d))
  have wish : xsp C fl ps.length (V.ref (hp.objs.size + 1) :: vs) (upd H1 (hp.objs.size + 1) (exo (hp.objs.size + 1) C none)) End (fun _ _ _ => False) :=
    ⟨len, _, rfl, upd_same, fun d n ne => ⟨rfl, d, ne, by rw [upd_ne ne] at n; exact n, by rw [vfs_self hi]⟩⟩
  have bound : BindsTo ⟨(hp.push (PySem.W.kdv_tup us)).push (HandSPX.excO C hp.objs.size), g, dr, tk, os⟩ fd ⟨Value.ref (hp.objs.size + 1) :: us, []⟩ (ps.zip (Value.ref (hp.objs.size + 1) :: us)) := by
    have := hb ⟨(hp.push (PySem.W.kdv_tup us)).push (HandSPX.excO C hp.objs.size), g, dr, tk, os⟩ (Value.ref (hp.objs.size + 1) :: us) I2.kIn (by rw [List.append_nil]; exact lenU)
    rw [List.append_nil] at this
    exact this
  have ran : codeAny (model X.prog X.w) (X.A.under (.builtin "type.__call__" ⟨.ref C :: us, []⟩)) (.call (.ref fI) ⟨.ref (hp.objs.size + 1) :: us, []⟩) (PySem.W.InitBack (hp.objs.size + 1) (fun r s' => match r with | .ok (.ret v) => MkP X pins σ Q v s' | .ok _ => False | .error er => X.xe er s'))
      ⟨(hp.push (PySem.W.kdv_tup us)).push (HandSPX.excO C hp.objs.size), g, dr, tk, os⟩ := by
    refine codeAny_mono (F1.run _ X.stack _ _ ⟨Value.ref (hp.objs.size + 1) :: us, []⟩ (Value.ref (hp.objs.size + 1) :: us) _ End (fun _ _ _ => False) (hr.make C us []) (I2.env0.make C us []) bound r2 wish) fun r s' z => ?_
    cases r with
    | error er =>
      obtain ⟨_, _, _, _, _, _, _, _, _, _, _, _, no⟩ := z
      exact no.elim
    | ok fw =>
      cases fw with
      | ret u =>
        obtain ⟨v, H2, os2, bare2, un2, hok2, rv, ev, d, ne, nd, eH⟩ := z
        subst ev
        obtain ⟨h2, g2, d2, t2, os'⟩ := s'
        have ea : H2 (hp.objs.size + 1) = some (exo (hp.objs.size + 1) C (some d)) := by rw [eH, upd_same]
        have ed : H2 d = some (exd d (vfs fl (.non :: vs) [])) := by rw [eH, upd_ne ne, upd_same]
        have eQ : upd (del H2 (hp.objs.size + 1)) d (.xd (vfs fl (.non :: vs) [])) = upd H1 d (.xd (vfs fl (.non :: vs) [])) := by
          funext b
          by_cases w1 : b = d
          · rw [w1, upd_same, upd_same]
          · rw [upd_ne w1, upd_ne w1]
            by_cases w2 : b = hp.objs.size + 1
            · rw [w2, del_same, free]
            · rw [del_ne w2, eH, upd_ne w2, upd_ne w1, upd_ne w2]
        exact ⟨rv, mk_end (raises_own T.exC T.tyC) I1 up1 keep un2 hok2 os2 bare2 ea ed nd (by rw [eQ]; exact q1 d nd)⟩
      | next => exact False.elim z
      | brk => exact False.elim z
      | cont => exact False.elim z
  refine wpAny_call ?_
  rcases kind with ⟨k, rfl⟩ | ⟨k, rfl⟩
  · exact codeAny_mono (HandSPX.call_own F.excBase_ValueError (fun Y => HandSPX.refsVE_contains Y bm k) (I1.kIn _ _ lk) (PySem.W.looks_findIn I1.kIn iC) (fun self => PySem.W.bind_fn I1.kIn self tI) room ran) fun r s' z => z
  · subst k
    exact codeAny_mono (HandSPX.call_own F.excBase_Exception (fun _ => rfl) (I1.kIn _ _ lk) (PySem.W.looks_findIn I1.kIn iC) (fun self => PySem.W.bind_fn I1.kIn self tI) room ran) fun r s' z => z
end
end Vz
namespace Vz
open PySem L2
/-- what C(e, ..) bears: field f is its i-th argument (the self counted) -/
def mkX (fl : List (Str × Nat)) (xs : List AV) : XP := ((fl.map (·.1)).reverse, (fl.map fun p => (AV.non :: xs).getD p.2 .non).reverse)
section
variable {K : PySem.W.Frag} {H : Hp} {μ : Mu}
theorem RAs.getD_ {xs : List AV} {vs : List V} (r : RAs K H μ xs vs) (i : Nat) : RA K H μ (xs.getD i .non) (vs.getD i .non) := by
  rw [List.getD_eq_getElem?_getD, List.getD_eq_getElem?_getD]
  rcases r.get? i with ⟨e1, e2⟩ | ⟨v, u, e1, e2, r⟩
  · rw [e1, e2]; exact .non
  · rw [e1, e2]; exact r
theorem fls_ra {xs : List AV} {vs : List V} (r : RAs K H μ xs vs) : ∀ fl : List (Str × Nat), RAs K H μ (fl.map fun p => xs.getD p.2 .non) (fl.map fun p => vs.getD p.2 .non)
  | [] => .nil
  | p :: fl => .cons (r.getD_ p.2) (fls_ra r fl)
theorem mkX_rd {G : Hs} {xs : List AV} {vs : List V} {fl : List (Str × Nat)} {d : Addr} (hG : RH K H μ G) (r : RAs K H μ xs vs) (n : H d = none) : RD K (upd H d (.xd (vfs fl (.non :: vs) []))) μ (mkX fl xs) (some d) := by
  refine ⟨_, upd_same, hG.nmem n, ?_, ?_⟩
  · simp only [mkX, vfs, List.append_nil, List.map_reverse, List.map_map]
    rfl
  · have := ((fls_ra (RAs.cons .non r) fl).rev).gr (Gr.new (ho := .xd (vfs fl (.non :: vs) [])) n)
    simp only [mkX, vfs, List.append_nil, List.map_reverse, List.map_map] at this ⊢
    exact this
end
/-- an own exception class with its own __init__ -/
structure Xk (P : Program) (w : World) (K : PySem.W.Frag) (mg : Str → Option Value) (base : Heap) (k : Nat) (cn : Str) (n : Nat) (fl : List (Str × Nat)) : Prop where
  at_ : mg cn = some (.ref (ga K cn))
  xc : XC K (ga K cn)
  ini : PySem.W.findIn K (.ref (ga K cn)) "__init__" = some (some (.ref (He.ma K (ga K cn) "__init__")))
  tin : PySem.W.typeIn K (.ref (He.ma K (ga K cn) "__init__")) = some (.type "function")
  ok : fl.all (fun q => decide (0 < q.2)) = true
  ex : ∃ fd ps, ps.length = n ∧ FnG P w K mg base (CX P w) k (He.ma K (ga K cn) "__init__") fd ps (xsp (ga K cn) fl ps.length) ∧ Binds K fd ps []
def xiB (cn : Str) (K : PySem.W.Frag) : Bool := xcA (ga K cn) K && (decide (PySem.W.findIn K (.ref (ga K cn)) "__init__" = some (some (.ref (He.ma K (ga K cn) "__init__")))) && decide (PySem.W.typeIn K (.ref (He.ma K (ga K cn) "__init__")) = some (.type "function")))
theorem xiB_ok {cn : Str} {K : PySem.W.Frag} (h : xiB cn K = true) : XC K (ga K cn) ∧ PySem.W.findIn K (.ref (ga K cn)) "__init__" = some (some (.ref (He.ma K (ga K cn) "__init__"))) ∧ PySem.W.typeIn K (.ref (He.ma K (ga K cn) "__init__")) = some (.type "function") := by
  obtain ⟨h1, h⟩ := He.ba h
  obtain ⟨h2, h3⟩ := He.ba h
  exact ⟨xcA_ok h1, of_decide_eq_true h2, of_decide_eq_true h3⟩
theorem xk_mk {P : Program} {w : World} {K : PySem.W.Frag} {mg : Str → Option Value} {base : Heap} {cn qual x : Str} {params : Arguments} {body : List Stmt} {scope : Scope} {fd : FuncData} {N ps : List Str} {k : Nat} {fl : List (Str × Nat)}
    (hat : mg cn = some (.ref (ga K cn))) (hx : XC K (ga K cn) ∧ PySem.W.findIn K (.ref (ga K cn)) "__init__" = some (some (.ref (He.ma K (ga K cn) "__init__"))) ∧ PySem.W.typeIn K (.ref (He.ma K (ga K cn) "__init__")) = some (.type "function"))
    (no : noAt K (ga K cn) fl = true) (Fn : FunD K x qual params body scope [] [] (He.ma K (ga K cn) "__init__") fd) (S : FnScope N ps scope)
    (h0 : (!fl.isEmpty && (decide (0 < ps.length) && (decide (fl.length ≤ 900) && fl.all fun p => decide (p.2 < ps.length)))) = true) (h1 : fl.all (fun q => decide (0 < q.2)) = true)
    (hb : ∀ (cdv : Value) (A : Around) (outer : List Env) (s : Shared) (H : Hp) (E : XK), OstB (cxOf (CX P w) P w K mg base N qual scope (He.ma K (ga K cn) "__init__") cdv A outer s H E) body fl)
    (hbind : ∀ (kV doc pm : Value) (an : Option Addr) (cdv ct : Value) (us : List Value), us.length = ps.length → bindArgs (PySem.W.fnOf x qual params body scope .none kV doc pm an cdv ct) ⟨us, []⟩ = pure (ps.zip us)) :
    Xk P w K mg base (k + 1) cn ps.length fl :=
  ⟨hat, hx.1, hx.2.1, hx.2.2, h1, fd, ps, rfl, fn_x Fn S hx.1 no h0 hb, Fn.bindsN hbind⟩
def mRaise (cn : Str) (fl : List (Str × Nat)) (n : Nat) (ms : MEs) : MS := fun ρ G => (ms ρ G).toS ρ fun xs G1 => if xs.length + 1 = n ∧ n ≤ 1000 then .exc cn (mkX fl xs) ρ G1 else .stuck
def mRaise0 (cn : Str) : MS := fun ρ G => .exc cn ([], []) ρ G
def mMkx (cn : Str) (fl : List (Str × Nat)) (n : Nat) (ms : MEs) : ME := fun ρ G => (ms ρ G).bind fun xs G1 => if xs.length + 1 = n ∧ n ≤ 1000 then .ok (.xv cn (mkX fl xs).1 (mkX fl xs).2) G1 else .stuck
def mMkx0 (cn : Str) : ME := fun ρ G => .ok (.xv cn [] []) G
section
variable {X : Cx} {W : WX} {e : Expr} {es : List Expr} {ms : MEs} {m : ME} {x : Str} {k n : Nat} {fl : List (Str × Nat)} {p pos pos' : Pos}
theorem tMkX_go {σ : St} {H : Hp} {Q : XK} (h : tG X.K (rAs X.K) W (fun ρ G => (ms ρ G)) σ H fun vs H1 => vs.length + 1 = n ∧ n ≤ 1000 ∧ ∀ d, H1 d = none → Q (.ref (ga X.K x)) (some d) (upd H1 d (.xd (vfs fl (.non :: vs) [])))) : tMkX (ga X.K x) fl n (tG X.K (rAs X.K) W ms) σ H Q := h
theorem ss_raise (D : Xk X.prog X.w X.K X.mg X.base k x n fl) (hr : Rm (k + 1) X.A) (hc : X.calm = true) (tk : Takes X W) (hg : Gl X x) (ha : SA X W (e :: es) ms) (hdb : (x == ("__debug__" : Str)) = false := by decide)
    (he : starEach (e :: es) X.env = (false, eval e X.env) :: starEach es X.env := by rfl) (hpl : (backTo pos (starEach es X.env)).any (·.1) = false := by rfl) : SS X W (.Raise (some (.Call (.Name x p) (e :: es) [] pos)) none pos') (mRaise x fl n ms) := by
  obtain ⟨fd, ps, hn, F1, hb⟩ := D.ex
  refine PS.imp (ps_raise hc tk (pmk_x D.xc D.ini D.tin F1 hr hb D.ok hg D.at_ ha hdb he hpl)) fun De σ H ⟨ρ, μ, G, hσ, hG, h⟩ => tMkX_go ?_
  refine tG.toS hσ hG h fun xs G1 H1 μ1 vs g1 hσ1 hG1 rs h1 => ?_
  by_cases hl : xs.length + 1 = n ∧ n ≤ 1000
  · rw [if_pos hl] at h1
    refine ⟨by rw [← rs.length, hn]; exact hl.1, by rw [hn]; exact hl.2, fun d nd => ?_⟩
    exact h1 _ μ1 σ (some d) (Gr.new nd) (hG1.new nd) (hσ1.gr (Gr.new nd)) (mkX_rd hG1 rs nd)
  · rw [if_neg hl] at h1
    exact h1.elim
/-- e.f, e a tracked exception -/
def tXfd (K : PySem.W.Frag) (f : Str) (te : TE) : TE := fun σ H Q => te σ H fun x H1 => ∃ (a : Addr) (c : Str) (dx : Addr) (gs : List (Str × V)) (v : V), x = .ref a ∧ H1 a = some (xo a (.ref (ga K c)) (some dx)) ∧ H1 dx = some (.xd gs) ∧ xcOk c K = true ∧ PySem.W.findIn K (.ref (ga K c)) f = some none ∧ gs.lookup f = some v ∧ Q v H1
theorem pe_xfd {te : TE} {f : Str} (he : PE X e te) (hb : attributeBase e f X.env (eval e X.env) = eval e X.env := by rfl) : PE X (.Attribute e f pos) (tXfd X.K f te) := by
  refine ⟨fun pins s σ H Q I h => attr_of hb (thn (he.run pins s σ H _ I h) fun u s1 ⟨x, H1, I1, rx, a, c, dx, gs, v, ex, ea, ed, ok, no, l, q⟩ => ?_)⟩
  subst ex
  cases (show u = Value.ref a from rx)
  have C := xcOk_ok ok
  obtain ⟨oe, vs, ha, hz, hf⟩ := xo_at I1.hok ea
  obtain ⟨mA, ns, rel⟩ := (I1.hok dx _ ed : ObjOk X.prog X.w H1 s1.heap dx (.xd gs))
  obtain ⟨od, ho, hl⟩ := lookIn_ns ns
  obtain ⟨u, hu, ru⟩ := RelO.some_of (v := v) (o := mA f) (by rw [← l]; exact rel f)
  have J : PySem.W.InstAt s1.heap a oe (ga X.K c) (some od) := ⟨ha, hz.1, by unfold PySem.W.notCls; rw [hf] <;> rfl, by rw [hz.2]; exact ho⟩
  exact HandSPX.exc_get I1.kIn J C.hga C.hgt C.hs (PySem.W.findObj_own C.hd no rfl (by rw [hl, hu])) (handed_of ru) ⟨v, H1, I1.tok _, ru, q⟩
def fXfd (cs : List Str) (f : Str) : AV → Hs → R AV
  | .xv c ns xs, G => if c ∈ cs then match (ns.zip xs).lookup f with
    | some v => .ok v G
    | none => .stuck
    else .stuck
  | _, _ => .stuck
def xfOk (f c : Str) (K : PySem.W.Frag) : Bool := xcOk c K && decide (PySem.W.findIn K (.ref (ga K c)) f = some none)
theorem rf_zip {K : PySem.W.Frag} {H : Hp} {μ : Mu} : ∀ {xs : List AV} {gs : List (Str × V)}, RAs K H μ xs (gs.map (·.2)) → RF K H μ ((gs.map (·.1)).zip xs) gs := fun {xs gs} r => by
  have hl : xs.length = gs.length := by rw [r.length, List.length_map]
  have e1 : ((gs.map (·.1)).zip xs).map (·.1) = gs.map (·.1) := List.map_fst_zip (by simp [hl])
  have e2 : ((gs.map (·.1)).zip xs).map (·.2) = xs := List.map_snd_zip (by simp [hl])
  exact ⟨e1, by rw [e2]; exact r⟩
theorem xfd_go {cs : List Str} {f : Str} (hc : (cs.all fun c => xfOk f c X.K) = true) {σ : St} {H : Hp} {Q : VK} (h : tG X.K (rA X.K) W (m1 (fXfd cs f) m) σ H Q) : tXfd X.K f (tG X.K (rA X.K) W m) σ H Q := by
  obtain ⟨ρ, μ, G, hσ, hG, h⟩ := h
  refine tG.bind hσ hG h fun v G1 H1 μ1 x g1 hσ1 hG1 r h1 => ?_
  cases r with
  | @xv a dx c ns gs xs h3 _ h4 _ en rs =>
    subst en
    simp only [fXfd] at h1
    by_cases hm : c ∈ cs
    · rw [if_pos hm] at h1
      cases e : ((gs.map (·.1)).zip xs).lookup f with
      | none => rw [e] at h1; exact h1.elim
      | some v =>
        rw [e] at h1
        obtain ⟨z, hz, rz⟩ := (rf_zip rs).look e
        obtain ⟨k1, k2⟩ := He.ba (List.all_eq_true.mp hc c hm)
        exact ⟨_, c, dx, gs, z, rfl, h3, h4, k1, of_decide_eq_true k2, hz, Po.now (v := v) h1 hG1 rz⟩
    · rw [if_neg hm] at h1
      exact h1.elim
  | @xv0 a c _ _ =>
    simp only [fXfd] at h1
    by_cases hm : c ∈ cs
    · rw [if_pos hm] at h1; exact h1.elim
    · rw [if_neg hm] at h1; exact h1.elim
  | _ => exact h1.elim
theorem se_xfd {f : Str} (cs : List Str) (hc : (cs.all fun c => xfOk f c X.K) = true) (ha : SE X W e m) (hb : attributeBase e f X.env (eval e X.env) = eval e X.env) : SE X W (.Attribute e f pos) (m1 (fXfd cs f) m) :=
  PE.imp (pe_xfd ha hb) fun σ H Q h => xfd_go hc h
end
section
variable {QV : AV → Hs → Prop} {E : XQ} {D : SP} {ρ : En} {G : Hs}
@[simp] theorem wp_raise (cn : Str) (fl : List (Str × Nat)) (n : Nat) (ms : MEs) : (mRaise cn fl n ms ρ G).wp D = (ms ρ G).wp (fun xs G => (xs.length + 1 = n ∧ n ≤ 1000) ∧ D.ex cn (mkX fl xs) G) D.ex := by
  unfold mRaise
  rw [wp_toS]
  congr 1
  funext xs G
  by_cases h : xs.length + 1 = n ∧ n ≤ 1000
  · rw [if_pos h]; exact propext ⟨fun x => ⟨h, x⟩, fun x => x.2⟩
  · rw [if_neg h]; exact propext ⟨fun x => x.elim, fun x => (h x.1).elim⟩
@[simp] theorem wpx_raise (cn : Str) (fl : List (Str × Nat)) (n : Nat) (ms : MEs) (Ex : Str → XP → En → Hs → Prop) : (mRaise cn fl n ms ρ G).wpx D Ex = (ms ρ G).wp (fun xs G => (xs.length + 1 = n ∧ n ≤ 1000) ∧ Ex cn (mkX fl xs) ρ G) (fun c d G => Ex c d ρ G) := by
  unfold mRaise
  rw [wpx_toS]
  congr 1
  funext xs G
  by_cases h : xs.length + 1 = n ∧ n ≤ 1000
  · rw [if_pos h]; exact propext ⟨fun x => ⟨h, x⟩, fun x => x.2⟩
  · rw [if_neg h]; exact propext ⟨fun x => x.elim, fun x => (h x.1).elim⟩
@[simp] theorem wp_raise0 (cn : Str) : (mRaise0 cn ρ G).wp D = D.ex cn ([], []) G := rfl
@[simp] theorem wpx_raise0 (cn : Str) (Ex : Str → XP → En → Hs → Prop) : (mRaise0 cn ρ G).wpx D Ex = Ex cn ([], []) ρ G := rfl
@[simp] theorem wp_mkx (cn : Str) (fl : List (Str × Nat)) (n : Nat) (ms : MEs) : (mMkx cn fl n ms ρ G).wp QV E = (ms ρ G).wp (fun xs G => (xs.length + 1 = n ∧ n ≤ 1000) ∧ QV (.xv cn (mkX fl xs).1 (mkX fl xs).2) G) E := by
  unfold mMkx
  rw [wp_bind]
  congr 1
  funext xs G
  exact wp_guard _
@[simp] theorem wp_mkx0 (cn : Str) : (mMkx0 cn ρ G).wp QV E = QV (.xv cn [] []) G := rfl
end
end Vz
namespace Vz
open PySem L2
theorem names_own {X : Cx} {bs : List Str} {x : Str} (hg : Gl X x) (hm : X.mg x = some (.ref (ga X.K x))) (hn : decide (x ∈ bs) = false) (hd : (x == ("__debug__" : Str)) = false) : Names X x (hcV bs X.K x) := by
  unfold hcV
  rw [if_neg (of_decide_eq_false hn)]
  exact ⟨hg, hd, .inl hm⟩
end Vz
namespace Vz
open PySem L2
def tyOk (K : PySem.W.Frag) : Ty → Bool
  | .b _ => true
  | .c n => clsOk n K
  | .x n => xcOk n K
/-- a tracked exception of the class t -/
def ExX (K : PySem.W.Frag) (H : Hp) (x : V) (t : Value) : Prop := ∃ (a : Addr) (n : Str) (d : Option Addr), x = .ref a ∧ t = .ref (ga K n) ∧ H a = some (xo a (.ref (ga K n)) d) ∧ (∀ dx, d = some dx → ∃ gs, H dx = some (.xd gs)) ∧ xcOk n K = true
theorem ty_of {K : PySem.W.Frag} {H : Hp} {μ : Mu} {G : Hs} {v : AV} {x : V} {ty : Ty} (hG : RH K H μ G) (r : RA K H μ v x) (e : tyA G v = some ty) (h2 : tyOk K ty = true) : TyX K H x (ty.v K) ∨ ExX K H x (ty.v K) := by
  cases r with
  | xv0 h3 _ => cases e; exact .inr ⟨_, _, none, rfl, rfl, h3, (fun _ z => by cases z), h2⟩
  | xv h3 _ h4 _ _ _ => cases e; exact .inr ⟨_, _, some _, rfl, rfl, h3, (fun _ z => by cases z; exact ⟨_, h4⟩), h2⟩
  | non => cases e; exact .inl (.base .non)
  | bl b => cases e; exact .inl (.base (.bl b))
  | int b => cases e; exact .inl (.base (.int b))
  | str b => cases e; exact .inl (.base (.str b))
  | tup h rt => cases e; exact .inl (.base (.tup h))
  | con h rt =>
    cases e
    obtain ⟨o, its, n, h3, h4, _⟩ := h
    exact .inl (.kTuple h3 h4)
  | lk h rt =>
    cases e
    rcases h with ⟨o, h⟩ | ⟨o, its, n, h3, h4, _⟩
    · exact .inl (.base (.frz h))
    · exact .inl (.kList h3 h4)
  | ls h rt => cases e; exact .inl (.base (.lst h.1))
  | iv h3 _ _ _ =>
    cases e
    have h2 : clsOk _ K = true := h2
    obtain ⟨k1, k2⟩ := He.ba h2
    obtain ⟨k2, k3⟩ := He.ba k2
    obtain ⟨k3, k4⟩ := He.ba k3
    obtain ⟨k4, k5⟩ := He.ba k4
    exact .inl (.base (.ins h3 (He.cls_ok k1) (of_decide_eq_true k2) (of_decide_eq_true k3) (of_decide_eq_true k4) (of_decide_eq_true k5)))
  | id h3 _ _ _ => cases e; exact .inl (.base (.dK h3))
  | it h3 _ _ _ => cases e; exact .inl (.base (.dT h3))
  | ref h =>
    obtain ⟨ob, ho, ro⟩ := hG.obj h
    simp only [tyA, ho] at e
    cases ob with
    | lst zs => cases e; obtain ⟨ws, h3, _⟩ := ro; exact .inl (.base (.lst h3))
    | dk zs => cases e; obtain ⟨ws, h3, _⟩ := ro; exact .inl (.base (.dK h3))
    | dt zs => cases e; obtain ⟨ws, h3, _⟩ := ro; exact .inl (.base (.dT h3))
    | ins cn zs =>
      cases e
      obtain ⟨dx, gs, h3, _⟩ := ro
      have h2 : clsOk cn K = true := h2
      obtain ⟨k1, k2⟩ := He.ba h2
      obtain ⟨k2, k3⟩ := He.ba k2
      obtain ⟨k3, k4⟩ := He.ba k3
      obtain ⟨k4, k5⟩ := He.ba k4
      exact .inl (.base (.ins h3 (He.cls_ok k1) (of_decide_eq_true k2) (of_decide_eq_true k3) (of_decide_eq_true k4) (of_decide_eq_true k5)))
    | xd zs => cases e
    | gone => cases e
def isTabT (tab : List (Ty × Bool)) (us : List Value) (K : PySem.W.Frag) : Bool := tab.all fun q => decide (PySem.W.kitAny K (q.1.v K) us = some q.2) && tyOk K q.1
def rIsTA (K : PySem.W.Frag) : List V → Hp → VK → Prop := fun xs H Q => ∃ (x : V) (tp : Addr) (cs : List V) (t : Value) (us : List Value) (b : Bool), xs = [x, .ref tp] ∧ H tp = some (.tup cs) ∧ Paired ClsV cs us ∧ (TyX K H x t ∨ ExX K H x t) ∧ PySem.W.kitAny K t us = some b ∧ Q (.bl b) H
theorem call_isTA {X : Cx} : CallR X (.builtin "isinstance") (rIsTA X.K) := by
  intro pins s σ H xs us Q I r h
  obtain ⟨x, tp, cs, t, ws, b, rfl, hT, k, ty, e, q⟩ := h
  rcases ty with ty | ⟨a, n, d, rfl, rfl, hx, hd, hc⟩
  · exact call_isiT pins s σ H _ us Q I r ⟨x, tp, cs, t, ws, b, rfl, hT, k, ty, e, q⟩
  · obtain ⟨u1, u2, rfl, r1, r2⟩ := vals2 r
    cases (show u2 = Value.ref tp from r2)
    cases (show u1 = Value.ref a from r1)
    obtain ⟨oe, od, J⟩ := instAt_xo I hx hd
    have C := xcOk_ok hc
    obtain ⟨_, its, rv, o, g, c1, n, dt⟩ := (show ObjOk X.prog X.w H s.heap tp (.tup cs) from I.hok tp _ hT)
    have e3 := ClsV.all k rv
    subst e3
    obtain ⟨oc, od2, dt2, sl⟩ := o
    simp only at c1 dt
    subst c1 dt
    exact PySem.W.kia_tup (PySem.W.kitx_exc C.cl C.hga C.hgt C.hs C.ha C.hn C.ht C.hm) I.kIn J g e (fun z => nomatch z) fun tk => ⟨.bl b, H, I.kept (t' := tk) fun _ _ z => z, rfl, q⟩
inductive ClsD (X : Cx) : List Expr → List V → List Value → Prop
  | nil : ClsD X [] [] []
  | cons {e : Expr} {es : List Expr} {c : V} {cs : List V} {u : Value} {us : List Value} (h : PE X e (tC c)) (k : ClsV c u) (r : ClsD X es cs us) (hs : starEach (e :: es) X.env = (false, eval e X.env) :: starEach es X.env := by rfl) : ClsD X (e :: es) (c :: cs) (u :: us)
def tCs : List V → TA
  | [] => tNil
  | c :: cs => tCons (tC c) (tCs cs)
theorem ClsD.pa {X : Cx} {es : List Expr} {cs : List V} {us : List Value} (h : ClsD X es cs us) : PA X es (tCs cs) := by
  induction h with
  | nil => exact pa_nil
  | cons h k r hs ih => exact pa_cons h ih hs
theorem ClsD.pair {X : Cx} {es : List Expr} {cs : List V} {us : List Value} (h : ClsD X es cs us) : Paired ClsV cs us := by
  induction h with
  | nil => exact .nil
  | cons h k r hs ih => exact .cons k ih
theorem tCs_go : ∀ {cs : List V} {σ : L2.St} {H : Hp} {Q : List V → Hp → Prop}, Q cs H → tCs cs σ H Q
  | [], _, _, _, h => h
  | c :: cs, σ, H, Q, h => tCs_go (cs := cs) h
section
variable {X : Cx} {W : WX} {a b c e : Expr} {es : List Expr} {m ma mb : ME} {p pos pos2 : Pos} {x1 : Nat}
theorem se_isiT {cs : List V} {us : List Value} {tab : List (Ty × Bool)} (hT : isTabT tab us X.K = true) (hc : ClsD X es cs us) (hl : decide (cs.length ≤ 100) = true) (hg : Gl X "isinstance") (hm : X.mg "isinstance" = none) (ha : SE X W a m)
    (he : starEach [a, .Tuple es x1 pos2] X.env = (false, eval a X.env) :: starEach [.Tuple es x1 pos2] X.env := by rfl) (hs2 : starEach [.Tuple es x1 pos2] X.env = (false, eval (.Tuple es x1 pos2) X.env) :: starEach [] X.env := by rfl) (hpl : (backTo pos (starEach [.Tuple es x1 pos2] X.env)).any (·.1) = false := by rfl) :
    SE X W (.Call (.Name "isinstance" p) [a, .Tuple es x1 pos2] [] pos) (m1 (fIsi tab) m) := by
  refine PE.imp (pe_callB call_isTA hg hm PyProof.Rows.boot_isinstance (pa_cons ha (pa_cons (pe_tup hc.pa) pa_nil hs2) he) (by decide) (by decide) he hpl) fun σ H Q ⟨ρ, μ, G, hσ, hG, h⟩ => tG.bind hσ hG h fun v G1 H1 μ1 x g1 hσ1 hG1 r h1 => ?_
  refine tCs_go ⟨by have := of_decide_eq_true hl; rw [sizeLine_eq]; omega, fun q hq => ?_⟩
  unfold fIsi at h1
  cases e : tyA G1 v with
  | none => rw [e] at h1; exact h1.elim
  | some ty =>
    rw [e] at h1
    simp only at h1
    cases e2 : tab.lookup ty with
    | none => rw [e2] at h1; exact h1.elim
    | some b =>
      rw [e2] at h1
      obtain ⟨k1, k2⟩ := He.ba (List.all_eq_true.mp hT _ (lookup_mem' e2))
      have g2 : Gr H1 μ1 (upd H1 q (.tup cs)) μ1 := Gr.new hq
      have G2 := hG1.new (ho := .tup cs) hq
      exact ⟨x, q, cs, ty.v X.K, us, b, rfl, upd_same, hc.pair, ty_of G2 (r.gr g2) e k2, of_decide_eq_true k1, (h1.gr g2).now G2 (.bl b)⟩
end
end Vz
namespace Vz
open PySem L2
end Vz
namespace Vz
open PySem L2
section
variable {QV : AV → Hs → Prop} {E : XQ} {G : Hs} {ρ : En} {D : SP}
theorem wp_par3 {i j l : Nat} {ms : MEs} : (mPar3 i j l ms ρ G).wp D = (ms ρ G).wp (fun vs G => match vs with
    | [u, v, w] => D.nx (((ρ.set i (some u)).set j (some v)).set l (some w)) G
    | _ => False) D.ex := by
  unfold mPar3
  rw [wp_toS]
  congr 1
  funext vs G
  match vs with
  | [] => rfl
  | [_] => rfl
  | [_, _] => rfl
  | [_, _, _] => rfl
  | _ :: _ :: _ :: _ :: _ => rfl
end
end Vz
namespace Vz
open PySem L2
/-- closed data, so deep at most -/
def DaD (k : Nat) (v : AV) (d : PyData) : Prop := (∀ G n, dat (n + k) G v = some d) ∧ d.canLay0 = true ∧ d.depth ≤ k
def Da (k : Nat) (v : AV) : Prop := ∃ d, DaD k v d
theorem DaD.mono {k j : Nat} {v : AV} {d : PyData} (h : DaD k v d) (l : k ≤ j) : DaD j v d := by
  obtain ⟨h1, h2, h3⟩ := h
  refine ⟨fun G n => ?_, h2, by omega⟩
  have := h1 G (n + (j - k))
  rw [show n + (j - k) + k = n + j by omega] at this
  exact this
theorem Da.mono {k j : Nat} {v : AV} (h : Da k v) (l : k ≤ j) : Da j v := let ⟨d, h⟩ := h; ⟨d, h.mono l⟩
inductive DaDs (k : Nat) : List AV → List PyData → Prop
  | nil : DaDs k [] []
  | cons {v : AV} {d : PyData} {vs : List AV} {ds : List PyData} (h : DaD k v d) (r : DaDs k vs ds) : DaDs k (v :: vs) (d :: ds)
theorem DaDs.get {k : Nat} {vs : List AV} {ds : List PyData} (h : DaDs k vs ds) : (∀ G n, allS (vs.map (dat (n + k) G)) = some ds) ∧ PyData.canLayAll0 ds = true ∧ PyData.depthAll ds ≤ k := by
  induction h with
  | nil => exact ⟨fun _ _ => rfl, rfl, by simp [PyData.depthAll]⟩
  | @cons v d vs ds h r ih =>
    obtain ⟨h1, h2, h3⟩ := h
    obtain ⟨i1, i2, i3⟩ := ih
    have hd : PyData.depthAll (d :: ds) = max d.depth (PyData.depthAll ds) := by simp [PyData.depthAll]
    exact ⟨fun G n => by simp only [List.map_cons, allS, h1 G n, i1 G n], by rw [PyData.canLayAll0, h2, i2]; rfl, by rw [hd]; omega⟩
theorem daD_ls {k : Nat} {vs : List AV} {ds : List PyData} (h : DaDs k vs ds) : DaD (k + 1) (.ls vs) (.list ds) := by
  obtain ⟨h1, h2, h3⟩ := h.get
  refine ⟨fun G n => ?_, by rw [PyData.canLay0]; exact h2, by rw [PyData.depth]; omega⟩
  show dat ((n + k) + 1) G (.ls vs) = _
  simp only [dat, h1 G n]
theorem das_of {k : Nat} : ∀ {vs : List AV}, (∀ v ∈ vs, Da k v) → ∃ ds, DaDs k vs ds
  | [], _ => ⟨[], .nil⟩
  | v :: vs, h => by
    obtain ⟨d, hd⟩ := h v (List.mem_cons_self ..)
    obtain ⟨ds, hs⟩ := das_of (vs := vs) fun w hw => h w (List.mem_cons_of_mem _ hw)
    exact ⟨d :: ds, .cons hd hs⟩
theorem da_ls {k : Nat} {vs : List AV} (h : ∀ v ∈ vs, Da k v) : Da (k + 1) (.ls vs) := let ⟨_, h⟩ := das_of h; ⟨_, daD_ls h⟩
theorem DaD.shaped {k : Nat} {v : AV} {d : PyData} (h : DaD k v d) (l : k ≤ 60) : SeqAt.shaped d = true := by
  unfold SeqAt.shaped
  rw [h.2.1, decide_eq_true (by have := h.2.2; omega : d.depth ≤ 64)]
  rfl
theorem DaD.at12 {k : Nat} {v : AV} {d : PyData} (h : DaD k v d) (l : k ≤ 12) (G : Hs) : dat 12 G v = some d := by
  have := h.1 G (12 - k)
  rw [show 12 - k + k = 12 by omega] at this
  exact this
section
variable {QV : AV → Hs → Prop} {E : XQ} {G : Hs} {ρ : En} {k : Nat} {v w : AV}
theorem eqF_da {j : Nat} {d e : PyData} (h : DaD k v d) (h2 : DaD j w e) (l : k ≤ 12) (l2 : j ≤ 12) : eqF G v w = some (PyData.eqv d e) := by
  unfold eqF
  rw [h.at12 l, h2.at12 l2]
  simp only
  rw [if_pos ⟨h.shaped (by omega), h2.shaped (by omega)⟩]
theorem eqB_refl (h : Da k v) (l : k ≤ 12) : eqB G v v = some true := by
  obtain ⟨d, h⟩ := h
  have e : eqF G v v = some true := by rw [eqF_da h h l l, SeqAt.eqv_refl d h.2.1]
  cases v with
  | int i => show some (decide (i = i)) = _; rw [decide_eq_true rfl]
  | str i => show some (decide (i = i)) = _; rw [decide_eq_true rfl]
  | bl i => show some (decide (i = i)) = _; rw [decide_eq_true rfl]
  | non => rfl
  | _ => exact e
theorem ne_refl (h : Da k v) (l : k ≤ 12) : (fNe v v G).wp QV E = QV (.bl false) G := by
  unfold fNe
  rw [eqB_refl h l]
  rfl
theorem eq_of_wp {α : Type} {r : R α} {v : α} {G : Hs} (h : r.wp (fun v' G' => v' = v ∧ G' = G) noX) : r = .ok v G := by
  obtain ⟨v', G', e, rfl, rfl⟩ := h.ex
  exact e
theorem wp_gT2 {i j : Nat} {v w : AV} : MG.wp (gTp 2 (gCo (gNm i) (gCo (gNm j) gNi)) (.tup [v, w]) ρ G) D = D.nx ((ρ.set i (some v)).set j (some w)) G := rfl
theorem catch_yes {tab : XTab} {c x : Str} {d : XP} {i : Option Nat} {m : MS} {hs : List HdA} (h : tab.lookup (c, x) = some true) : catchA tab (⟨x, i, m⟩ :: hs) c d ρ G = outH i (m (inA i (.xv c d.1 d.2) ρ) G) := by
  unfold catchA pickH
  simp only [h]
end
end Vz
namespace Vz
open PySem PySem.Spec L2 PyProof.Rows
/-- the object that the keyword x of the def at f has when left out -/
def kwAt (f : Str × Option Str) (x : Str) (K : PySem.W.Frag) : Addr := match K.lookup (He.fAd K f) with
  | some ⟨_, _, .func fd, _⟩ => match fd.kwdefaults with
    | .ref D => match PySem.W.nsIn K D x with
      | some (some (.ref a)) => a
      | _ => 0
    | _ => 0
  | _ => 0
/-- at p there is the tuple of these flat values -/
def tuA (p : PySem.W.Frag → Addr) (vs : List AV) (K : PySem.W.Frag) : Bool := vs.all flB && match K.lookup (p K) with
  | some ⟨.type c, _, .seq its _, _⟩ => decide (c = "tuple") && (decide (its.size ≤ sizeLine) && He.relAll ((vs.map dvOf).map (He.Dv.v K)) its.toList)
  | _ => false
/-- tables of isinstance, the module's name apart -/
def isTabN (tab : List (Ty × Bool)) (x : Str) (K : PySem.W.Frag) : Bool := isTab tab (.ref (ga K x)) K
def isTabM (tab : List (Ty × Bool)) (us : PySem.W.Frag → List Value) (K : PySem.W.Frag) : Bool := isTabT tab (us K) K
/-- such values stand for those in every heap -/
abbrev RaK (K : PySem.W.Frag) (ds : List AV) (ys : List V) : Prop := ∀ H μ, RAs K H μ ds ys
theorem rk_nil {K : PySem.W.Frag} : RaK K [] [] := fun _ _ => .nil
theorem rk_fl {K : PySem.W.Frag} {v : AV} {y : V} {vs : List AV} {ys : List V} (r : RaK K vs ys) (e : fl v = some y := by rfl) : RaK K (v :: vs) (y :: ys) := fun H μ => .cons (fl_ok e) (r H μ)
section
variable {K : PySem.W.Frag} {x qual : Str} {params : Arguments} {body : List Stmt} {scope : Scope} {dvs : List V} {kws : List (Str × V)} {f : Addr} {fd : FuncData} {ps : List Str}
theorem shTk0 (F : FunD K x qual params body scope [] kws f fd) (es : List AV) (ms : List (Str × V)) (hes : RaK K es (ms.map (·.2))) (hk : kws ≠ []) (hms : ∀ q ∈ ms, q ∈ kws) (n : Nat) (ks : List Str) (π : List Arg)
    (h : ∀ (D : Addr) (doc pm : Value) (an : Option Addr) (cdv ct : Value) (us mv ws : List Value), us.length = n → mv.length = ms.length → ws.length = ks.length →
      KwChain D ((ms.map (·.1)).zip mv) (bindArgs (PySem.W.fnOf x qual params body scope .none (.ref D) doc pm an cdv ct) ⟨us, ks.zip ws⟩) (ps.zip (gP mv π us ws))) :
    Sh K fd ps n ks (gP es π) := by
  obtain ⟨mv, hb⟩ := F.kbinds0 n ks ms (fun us mv ws => gP mv π us ws) hk hms (fun r1 r3 r4 => gP_vals r3 r1 r4 π) h
  exact ⟨_, _, hb, fun H μ xs vs zs ws r rz => gP_ras (hes H μ) r rz π⟩
end
end Vz
namespace Vz
open PySem PySem.Spec L2
open PyProof.Rows (AllBare)
def kwx {α : Type} (π : List Nat) (ws : List α) : List α := π.filterMap fun j => ws[j]?
section
variable {X : Cx} {W : WX} {kws : List Keyword} {tk : TA} {mk : MEs} {x : Str} {C fI : Addr} {k n m : Nat} {fd : FuncData} {ps ks : List Str} {fl : List (Str × Nat)} {π : List Nat} {p pos : Pos}
def mMkxK (cn : Str) (fl : List (Str × Nat)) (n m : Nat) (π : List Nat) (mk : MEs) : ME := fun ρ G => (mk ρ G).bind fun ys G1 => if ys.length = m ∧ (kwx π ys).length + 1 = n ∧ n ≤ 1000 then .ok (.xv cn (mkX fl (kwx π ys)).1 (mkX fl (kwx π ys)).2) G1 else .stuck
def mRaiseK (cn : Str) (fl : List (Str × Nat)) (n m : Nat) (π : List Nat) (mk : MEs) : MS := fun ρ G => (mk ρ G).toS ρ fun ys G1 => if ys.length = m ∧ (kwx π ys).length + 1 = n ∧ n ≤ 1000 then .exc cn (mkX fl (kwx π ys)) ρ G1 else .stuck
end
section
variable {QV : AV → Hs → Prop} {E : XQ} {D : SP} {ρ : En} {G : Hs}
@[simp] theorem wp_mkxK (cn : Str) (fl : List (Str × Nat)) (n m : Nat) (π : List Nat) (mk : MEs) : (mMkxK cn fl n m π mk ρ G).wp QV E = (mk ρ G).wp (fun ys G => (ys.length = m ∧ (kwx π ys).length + 1 = n ∧ n ≤ 1000) ∧ QV (.xv cn (mkX fl (kwx π ys)).1 (mkX fl (kwx π ys)).2) G) E := by
  unfold mMkxK
  rw [wp_bind]
  congr 1
  funext xs G
  exact wp_guard _
@[simp] theorem wp_raiseK (cn : Str) (fl : List (Str × Nat)) (n m : Nat) (π : List Nat) (mk : MEs) : (mRaiseK cn fl n m π mk ρ G).wp D = (mk ρ G).wp (fun ys G => (ys.length = m ∧ (kwx π ys).length + 1 = n ∧ n ≤ 1000) ∧ D.ex cn (mkX fl (kwx π ys)) G) D.ex := by
  unfold mRaiseK
  rw [wp_toS]
  congr 1
  funext ys G
  by_cases h : ys.length = m ∧ (kwx π ys).length + 1 = n ∧ n ≤ 1000
  · rw [if_pos h]; exact propext ⟨fun x => ⟨h, x⟩, fun x => x.2⟩
  · rw [if_neg h]; exact propext ⟨fun x => x.elim, fun x => (h x.1).elim⟩
end
end Vz
namespace Vz
open PySem PySem.Spec L2
def tyV (K : PySem.W.Frag) (cn : Str) : Option String → Value
  | some T => .type T
  | none => .ref (ga K cn)
end Vz
namespace Vz
open PySem PySem.Spec L2
open PyProof.Rows (IsTup Subscript_ tail_any tupleItemsOf_ subscriptTail)
theorem fmap_congr {α β : Type} {f g : α → Option β} : ∀ {l : List α}, (∀ x ∈ l, f x = g x) → l.filterMap f = l.filterMap g
  | [], _ => rfl
  | x :: l, h => by rw [List.filterMap_cons, List.filterMap_cons, h x (List.mem_cons_self ..), fmap_congr fun y hy => h y (List.mem_cons_of_mem _ hy)]
section
variable {prog : Program} {w : World} {A : Around} {E : Value → Shared → Prop} {s : Shared}
theorem back_pick (items : Array Value) : (List.range items.size).filterMap (fun k : Nat => items[(((items.size : Int) - 1) + (k : Int) * (-1)).toNat]?) = items.toList.reverse := by
  have e := PySem.W.krv_pick items
  unfold slicePick at e
  rw [PySem.W.krv_bounds] at e
  have e2 : ((sliceRange ((items.size : Int) - 1) (-1) (-1)).filterMap (items[·]?)) = items.toList.reverse := by
    have := congrArg Array.toList e
    simpa using this
  rw [← e2, PySem.W.krv_sliceRange, List.filterMap_map]
  refine fmap_congr fun k hk => ?_
  have := List.mem_range.mp hk
  show items[_]? = items[items.size - 1 - k]?
  congr 1
  omega
theorem back_places (n : Nat) : Builtin.Slice.slicePlaces ((n : Int) - 1) (-1) (-1) = n := by
  unfold Builtin.Slice.slicePlaces
  rw [if_neg (by decide)]
  by_cases h : (n : Int) - 1 > -1
  · rw [if_pos h, show (-(-1) : Int) = 1 from rfl, Int.ediv_one]
    omega
  · rw [if_neg h]
    omega
theorem back_applied {sl : Addr} {vs : Value} {n : Nat} {Q : Int × Int × Nat → Shared → Prop} (hs : s.heap.IsSliceOf sl .none .none vs) (ps : IsPart vs (some (-1)))
    (h : Q ((n : Int) - 1, -1, n) s) : wpAny (model prog w) A (Builtin.Slice.sliceApplied (.ref sl) (pure (n : Int))) Q E s := by
  obtain ⟨os, hos, hcs, hds⟩ := id hs
  unfold Builtin.Slice.sliceApplied Builtin.Slice.sliceFields
  refine wpAny_bind (wpAny_bind (wpAny_field hos hds (x := .none) rfl (wpAny_bind (wpAny_field hos hds (x := .none) rfl (wpAny_bind (wpAny_field hos hds (x := vs) rfl (wpAny_pure ?_)))))))
  refine wpAny_bind (HT.slicePart_ ps ?_)
  show wpAny _ _ (if ((-1 : Int) == 0) = true then _ else _) _ _ s
  rw [if_neg (by decide)]
  refine wpAny_bind (HT.slicePart_ .none (wpAny_bind (HT.slicePart_ .none (wpAny_bind (wpAny_pure ?_)))))
  have e : Builtin.Slice.sliceAdjust none none (-1) (n : Int) = ((n : Int) - 1, -1) := rfl
  show wpAny _ _ (match Builtin.Slice.sliceAdjust none none (-1) (n : Int) with | (lo, hi) => pure (lo, (-1 : Int), Builtin.Slice.slicePlaces lo hi (-1))) _ _ s
  rw [e]
  show wpAny _ _ (pure ((n : Int) - 1, (-1 : Int), Builtin.Slice.slicePlaces ((n : Int) - 1) (-1) (-1))) _ _ s
  rw [back_places]
  exact wpAny_pure h
theorem back_item {t sl : Addr} {items : Array Value} {vs : Value} {Q : Value → Shared → Prop} (ht : IsTup s.heap t items) (hs : s.heap.IsSliceOf sl .none .none vs) (ps : IsPart vs (some (-1))) (hz : items.size ≤ sizeLine)
    (h : Q (.ref s.heap.objs.size) { s with heap := s.heap.push { cls := .type "tuple", data := .seq items.toList.reverse.toArray } }) : wpAny (model prog w) A (getItem (.ref t) (.ref sl)) Q E s := by
  obtain ⟨os, hos, hcs, hds⟩ := id hs
  have tS : s.TypeIs (.ref sl) "slice" := ⟨os, hos, hcs⟩
  have room : sizeOk (.seq items.toList.reverse.toArray) := by
    show items.toList.reverse.toArray.size ≤ sizeLine
    rw [List.size_toArray, List.length_reverse, Array.length_toList]
    exact hz
  unfold getItem
  try with_reducible refine wpAny_holding ?_
  first | refine wpAny_bind (wpAny_pure ?_) | skip
  refine wpAny_bind (wpAny_sequenceKey ht.typeIs (by decide) ?_)
  refine wpAny_bind (wpAny_callSpecial?_slot (name := Str.ofString "__getitem__") ht.typeIs PyProof.Rows.slot_tuple_getitem (wpAny_call_entry PyProof.Rows.slot_tuple_getitem ht.typeIs PyProof.Rows.entry_tuple_getitem ?_ (PyProof.Rows.args_tuple_getitem _ _)))
  show wpAny _ _ (Builtin.Tuple.tupleItemsOf (.ref t) >>= _) _ _ s
  refine wpAny_bind (tupleItemsOf_ ht ?_)
  refine wpAny_bind (wpAny_typeOf tS ?_)
  rw [if_pos (by decide)]
  refine wpAny_bind (back_applied hs ps ?_)
  have no : ¬ ((((items.size : Int) - 1) == 0 && (-1 : Int) == 1 && items.size == items.size) = true) := by
    intro q
    rw [Bool.and_eq_true, Bool.and_eq_true] at q
    exact absurd q.1.2 (by decide)
  show wpAny _ _ (if (((items.size : Int) - 1) == 0 && (-1 : Int) == 1 && items.size == items.size) = true then _ else _) _ _ s
  rw [if_neg no, back_pick]
  first
    | exact wpAny_bind (m := Builtin.Tuple.tupleExact _) (wpAny_newObj_type (wpAny_pure ⟨_, rfl, wpAny_pure h⟩) room)
    | exact wpAny_bind (m := Builtin.Tuple.tupleExact _) (wpAny_newObj_type (wpAny_bind (wpAny_pure (wpAny_pure ⟨_, rfl, wpAny_pure h⟩))) room)
    | exact wpAny_bind (wpAny_bind (m := Builtin.Tuple.tupleExact _) (wpAny_newObj_type (wpAny_pure (wpAny_pure ⟨_, rfl, wpAny_pure h⟩)) room))
    | exact wpAny_bind (wpAny_bind (m := Builtin.Tuple.tupleExact _) (wpAny_newObj_type (wpAny_pure ⟨_, rfl, wpAny_pure h⟩) room))
end
def tRev (K : PySem.W.Frag) (te : TE) : TE := fun σ H Q => te σ H fun x H1 => (∃ a xs, x = .ref a ∧ SqT K H1 a xs ∧ ∀ p, H1 p = none → Q (.ref p) (upd H1 p (.tup xs.reverse))) ∨ ∃ a xs, x = .ref a ∧ SqL K H1 a xs ∧ ∀ p, H1 p = none → Q (.ref p) (upd H1 p (.lst xs.reverse))
section
variable {X : Cx} {W : WX} {e : Expr} {te : TE} {ma : ME} {k : Nat} {p1 p2 p3 pos : Pos}
theorem pe_rev (he : PE X e te) : PE X (.Subscript e (.Slice none none (some (.UnaryOp .USub (.Constant (.int 1) k p1) p2)) p3) pos) (tRev X.K te) := by
  refine ⟨fun pins s σ H Q I h => ?_⟩
  refine Subscript_ (thn (he.run pins s σ H _ I h) fun v s1 ⟨x, H1, I1, r1, q1⟩ => ?_)
  have step : PO X (some (.UnaryOp .USub (.Constant (.int 1) k p1) p2)) (tPart (tUn (rU fun i => .int (-i)) (tC (.int 1)))) := po_some (pe_un un_neg pe_int)
  refine wpAny_Slice (thn (po_none.run pins s1 σ H1 (fun o H2 => o = none ∧ H2 = H1) I1 ⟨rfl, rfl⟩) fun vl s2 ⟨l, H2, I2, pl, el, e2⟩ => ?_)
  subst el e2
  refine thn (po_none.run pins s2 σ H2 (fun o H3 => o = none ∧ H3 = H2) I2 ⟨rfl, rfl⟩) fun vu s3 ⟨u, H3, I3, pu, eu, e3⟩ => ?_
  subst eu e3
  refine thn (step.run pins s3 σ H3 (fun o H4 => o = some (-1) ∧ H4 = H3) I3 ⟨1, rfl, -1, rfl, rfl, rfl⟩) fun vs s4 ⟨o, H4, I4, ps, eo, e4⟩ => ?_
  subst eo e4
  have I5 : Inv X pins σ H4 { s4 with heap := s4.heap.push { cls := .type "slice", data := .fields #[vl, vu, vs] } } := I4.kept (t' := s4.toks) fun b ob q => Heap.get?_push_of_some _ q
  cases pl
  cases pu
  rcases q1 with ⟨a, xs, ex, hx, q⟩ | ⟨a, xs, ex, hx, q⟩
  · subst ex
    cases r1
    obtain ⟨its, r, ht, hz⟩ := I5.tuple hx
    show wpAny (model X.prog X.w) X.A (subscriptTail e (.Slice none none (some (.UnaryOp .USub (.Constant (.int 1) k p1) p2)) p3) (.ref a) (.ref s4.heap.objs.size)) (EP X pins σ Q) X.xe { s4 with heap := s4.heap.push { cls := .type "slice", data := .fields #[.none, .none, vs] } }
    refine tail_any (ops := [.ref a, .ref s4.heap.objs.size]) ht.typeIs (PyProof.Rows.slot_tuple_getitem.lookup) ?_ (by with_unfolding_all rfl)
    have hl : its.length = xs.length := r.length.symm
    refine back_item ht (Heap.IsSliceOf.new _ .none .none vs) ps (by rw [List.size_toArray, hl]; exact hz) ?_
    refine ⟨.ref _, _, I5.laid (t' := s4.toks) (o := .tup xs.reverse) (fun b ob q => Heap.get?_push_of_some _ q) (Nat.le_refl _) ?_, rfl, q _ (I5.hok.fresh (Nat.le_refl _))⟩
    exact ⟨by rw [List.length_reverse]; exact hz, _, r.reverse, IsTup.new _ _⟩
  · subst ex
    cases r1
    obtain ⟨its, r, ht, hz⟩ := I5.list hx
    have hl : its.length = xs.length := r.length.symm
    show wpAny (model X.prog X.w) X.A (subscriptTail e (.Slice none none (some (.UnaryOp .USub (.Constant (.int 1) k p1) p2)) p3) (.ref a) (.ref s4.heap.objs.size)) (EP X pins σ Q) X.xe { s4 with heap := s4.heap.push { cls := .type "slice", data := .fields #[.none, .none, vs] } }
    refine tail_any (ops := [.ref a, .ref s4.heap.objs.size]) ht.isList.typeIs (PySem.slot_list_getitem.lookup) ?_ (by with_unfolding_all rfl)
    refine wpAny_getItem_list_slice ht.isList (Heap.IsSliceOf.new _ .none .none vs) .none .none ps (by decide) ?_ (by rw [List.size_toArray]; omega)
    rw [PySem.W.krv_pick]
    refine ⟨.ref _, _, I5.laid (t' := s4.toks) (o := .lst xs.reverse) (fun b ob q => Heap.get?_push_of_some _ q) (Nat.le_refl _) ?_, rfl, q _ (I5.hok.fresh (Nat.le_refl _))⟩
    exact ⟨by rw [List.length_reverse]; exact hz, _, 0, r.reverse, Heap.get?_push_size _ rfl⟩
def fRev (v : AV) (G : Hs) : R AV := match tupOf v with
  | some xs => .ok (.tup xs.reverse) G
  | none => match lstOf G v with
    | some xs => .ok (.ref G.length) (G ++ [.lst xs.reverse])
    | none => .stuck
theorem se_rev (ha : SE X W e ma) : SE X W (.Subscript e (.Slice none none (some (.UnaryOp .USub (.Constant (.int 1) k p1) p2)) p3) pos) (m1 fRev ma) := by
  refine PE.imp (pe_rev ha) fun σ H Q ⟨ρ, μ, G, hσ, hG, h⟩ => tG.bind hσ hG h fun v G1 H1 μ1 x g1 hσ1 hG1 r h1 => ?_
  have h1 : Po X.K (rA X.K) W σ H1 μ1 (fRev v G1) Q := h1
  unfold fRev at h1
  cases e : tupOf v with
  | some xs =>
    rw [e] at h1
    obtain ⟨p, vs, rfl, hq, rs⟩ := tupOf_ok r e
    exact .inl ⟨p, vs, rfl, hq, fun q hqn => h1 _ _ _ (Gr.new hqn) (hG1.new hqn) (.tup upd_same (RAs.rev (rs.gr (Gr.new hqn))))⟩
  | none =>
    rw [e] at h1
    cases e2 : lstOf G1 v with
    | none => simp only [e2] at h1; exact h1.elim
    | some xs =>
      simp only [e2] at h1
      obtain ⟨p, vs, rfl, hq, rs⟩ := lstOf_ok hG1 r e2
      exact .inr ⟨p, vs, rfl, hq, fun q hqn => h1 _ _ _ (Gr.alloc hqn) (hG1.alloc hqn ⟨_, upd_same, RAs.rev (rs.gr (Gr.alloc hqn))⟩) (.ref (hG1.fresh q))⟩
end
section
variable {QV : AV → Hs → Prop} {E : XQ} {G : Hs}
theorem rev_T {xs : List AV} : (fRev (.tup xs) G).wp QV E = QV (.tup xs.reverse) G := rfl
end
end Vz
namespace Vz
open PySem PySem.Spec L2
section
variable {X : Cx} {W : WX} {kx vx tg iter : Expr} {ifs : List Expr} {scope : Scope} {own' : List (Str × Nat)} {t : MB} {mk mv : ME} {pos : Pos}
open Classical in
/-- the turns: the new dict is the object D -/
noncomputable def dcF (gd : Option (Nat × List AV)) (g : MG) (t : MB) (mk mv : ME) (D : Nat) (ρ : En) : List AV → Hs → R Unit
  | [], G => if gdOk gd G then .ok () G else .stuck
  | v :: vs, G => if gdOk gd G then match g v ρ G with
      | .ok ρ1 G1 => match t ρ1 G1 with
        | .ok true G2 => match mk ρ1 G2 with
          | .ok y G3 => match mv ρ1 G3 with
            | .ok z G4 => match kOf y, G4[D]? with
              | some k, some (.dk acc) => if acc.length < szl then dcF gd g t mk mv D ρ vs (G4.set D (.dk (putA acc k z))) else .stuck
              | _, _ => .stuck
            | _ => .stuck
          | _ => .stuck
        | .ok false G2 => dcF gd g t mk mv D ρ vs G2
        | _ => .stuck
      | _ => .stuck
    else .stuck
noncomputable def mDc (mi : MI) (g : MG) (t : MB) (mk mv : ME) (own : List Nat) : ME := fun ρ G => (mi ρ G).bind fun k G1 => (dcF k.2 g t mk mv G1.length (wipeA ρ own) k.1 (G1 ++ [.dk []])).bind fun _ G2 => .ok (.ref G1.length) G2
theorem dc_go {S own : List Nat} {mi : MI} {g : MG} (hS : ∀ j ∈ S, j ∈ own) {K : PySem.W.Frag} {σ : St} {H : Hp} {Q : VK} (h : tG K (rA K) W (mDc mi g t mk mv own) σ H Q) :
    tDc (tI K W mi) (tT K WN S g) (tG K rB WN t) (tG K (rA K) WN mk) (tG K (rA K) WN mv) own σ H Q := by
  obtain ⟨ρ, μ, G, hσ, hG, h⟩ := h
  refine ⟨ρ, μ, G, hσ, hG, ?_⟩
  unfold mDc at h
  cases e : mi ρ G with
  | stuck => rw [e] at h; exact h
  | exc c d G1 => rw [e] at h; exact h
  | ok k G1 =>
    rw [e] at h
    simp only [R.bind_ok] at h
    intro H1 μ1 J g1 hG1 ok D hD
    have gD : Gr H1 μ1 (upd H1 D (.dK [])) (μ1 ++ [some D]) := Gr.alloc hD
    have hGD : RH K (upd H1 D (.dK [])) (μ1 ++ [some D]) (G1 ++ [.dk []]) := hG1.alloc hD ⟨[], upd_same, RF.nil'⟩
    have hDn : Num (μ1 ++ [some D]) G1.length D := hG1.fresh D
    have hw := (hσ.gr (g1.trans gD)).wipe own
    have h0 : Po K (rA K) W σ (upd H1 D (.dK [])) (μ1 ++ [some D]) ((dcF k.2 g t mk mv G1.length (wipeA ρ own) k.1 (G1 ++ [.dk []])).bind fun _ G2 => .ok (.ref G1.length) G2) Q := Po.gr (g1.trans gD) h
    refine ⟨fun i mm H => mm = k.1.length - i ∧ i ≤ k.1.length ∧ ∃ μ G, Gr (upd H1 D (.dK [])) (μ1 ++ [some D]) H μ ∧ RH K H μ G ∧ Po K (rA K) W σ H μ ((dcF k.2 g t mk mv G1.length (wipeA ρ own) (k.1.drop i) G).bind fun _ G2 => .ok (.ref G1.length) G2) Q,
      ⟨k.1.length, rfl, Nat.zero_le _, _, _, Gr.refl _ _, hGD, h0⟩, ?_⟩
    rintro i mm H2 ⟨rfl, hi2, μ2, G2, g2, hG2, h2⟩
    have hDn2 : Num μ2 (G1.length) D := hDn.gr g2
    by_cases hlt : i < k.1.length
    · rw [List.drop_eq_getElem_cons hlt] at h2
      simp only [dcF] at h2
      by_cases hgd : gdOk k.2 G2
      · rw [if_pos hgd] at h2
        obtain ⟨go, yl⟩ := (ok i H2 μ2 G2 (gD.trans g2) hG2 hgd).1 _ (List.getElem?_eq_getElem hlt)
        refine .inr ⟨go, fun H' => ∃ μ G, Gr (upd H1 D (.dK [])) (μ1 ++ [some D]) H' μ ∧ RH K H' μ G ∧ Po K (rA K) W σ H' μ ((dcF k.2 g t mk mv G1.length (wipeA ρ own) (k.1.drop (i + 1)) G).bind fun _ G2 => .ok (.ref G1.length) G2) Q,
          fun H' z => ⟨k.1.length - (i + 1), by omega, rfl, hlt, z⟩, fun x H' y => ?_⟩
        obtain ⟨g3, hG3, rx⟩ := yl x H' y
        have g13 := g2.trans g3
        refine ⟨_, wipeA ρ own, μ2, G2, rx, hw.gr g13, hG3, ?_⟩
        have h3 := Po.gr g3 h2
        cases e3 : g k.1[i] (wipeA ρ own) G2 with
        | stuck => rw [e3] at h3; exact h3
        | exc c d G' => rw [e3] at h3; exact h3
        | ok ρ4 G4 =>
          rw [e3] at h3
          simp only at h3
          intro H4 μ4 σ4 g4 hG4 hσ4 l4 j4
          have h4 := Po.gr g4 h3
          have g14 := g13.trans g4
          refine ⟨(wipe_eq hS l4 j4).trans wipe_wipe, ρ4, μ4, G4, hσ4, hG4, ?_⟩
          cases e4 : t ρ4 G4 with
          | stuck => rw [e4] at h4; exact h4
          | exc c d G' => rw [e4] at h4; exact h4.elim
          | ok b G5 =>
            rw [e4] at h4
            intro H5 μ5 b' g5 hG5 eb
            have eb : b = b' := eb
            subst eb
            have h5 := Po.gr g5 h4
            have g15 := g14.trans g5
            cases b with
            | false => exact iteF ⟨μ5, G5, g15, hG5, h5⟩
            | true =>
              refine iteT ⟨ρ4, μ5, G5, hσ4.gr g5, hG5, ?_⟩
              simp only at h5
              cases e6 : mk ρ4 G5 with
              | stuck => rw [e6] at h5; exact h5
              | exc c d G' => rw [e6] at h5; exact h5.elim
              | ok y G6 =>
                rw [e6] at h5
                simp only at h5
                intro H6 μ6 y' g6 hG6 ry
                have h6 := Po.gr g6 h5
                have g16 := g15.trans g6
                refine ⟨ρ4, μ6, G6, (hσ4.gr g5).gr g6, hG6, ?_⟩
                cases e7 : mv ρ4 G6 with
                | stuck => rw [e7] at h6; exact h6
                | exc c d G' => rw [e7] at h6; exact h6.elim
                | ok z G7 =>
                  rw [e7] at h6
                  simp only at h6
                  intro H7 μ7 z' g7 hG7 rz
                  have h7 := Po.gr g7 h6
                  have g17 := g16.trans g7
                  have hDn7 : Num μ7 (G1.length) D := hDn.gr g17
                  obtain ⟨o, ho, ro⟩ := hG7.obj hDn7
                  cases ek : kOf y with
                  | none => rw [ek] at h7; exact h7.elim
                  | some key =>
                    have ey := kOf_ok (ry.gr g7) ek
                    rw [ek, ho] at h7
                    cases o with
                    | dk acc =>
                      simp only at h7
                      obtain ⟨ws, hv, rs⟩ := ro
                      by_cases hz : acc.length < szl
                      · rw [if_pos hz] at h7
                        have gp : Gr H7 μ7 (upd H7 D (.dK (putK ws key z'))) μ7 := Gr.put hG7 hDn7 ho
                        refine ⟨ws, key, ey, hv, by rw [← rs.length]; exact hz, μ7, _, g17.trans gp, hG7.put (o := .dk (putA acc key z)) hDn7 ho ⟨_, upd_same, ?_⟩, Po.gr gp h7⟩
                        exact RF.put key (rz.gr gp) ⟨rs.1, rs.2.gr gp⟩
                      · rw [if_neg hz] at h7
                        exact h7.elim
                    | _ => exact h7.elim
      · rw [if_neg hgd] at h2
        exact h2.elim
    · have ei : i = k.1.length := by omega
      rw [List.drop_eq_nil_of_le (by omega)] at h2
      simp only [dcF] at h2
      by_cases hgd : gdOk k.2 G2
      · rw [if_pos hgd] at h2
        exact .inl ⟨(ok i H2 μ2 G2 (gD.trans g2) hG2 hgd).2 (by omega), Po.now (v := AV.ref G1.length) h2 hG2 (.ref hDn2)⟩
      · rw [if_neg hgd] at h2
        exact h2.elim
theorem sw_trueD {kx vx : Expr} {gs : List Comprehension} {scope : Scope} {pos py : Pos} {y : Str} {l : Nat} {env : Env} (hk : env.scope.kind = .function) (hy : env.scope.names.lookup y = some .local) (hl : (py.line == pos.line) = true)
    (ha : (scope.names.any fun (n, k) => n == y && (k == .local || k == .cell)) = false) : swapsWith (.DictComp kx vx gs scope pos) (some (.Name y py)) l env = pure true := by
  have ky : env.kindOf y = some .local := hy
  have hb : env.blockKind = .function := by unfold Env.blockKind; rw [hk]; rfl
  unfold swapsWith
  simp only [hb, ky, ha, Expr.pos, hl]
  rfl
theorem ps_setDc {i : Nat} {y : Str} {py spos : Pos} {own : List (Str × Nat)} {wi : TI} {g : TG} {tt : TT} {tk tv : TE} (hc : X.calm = true) (hN : X.N.Nodup) (hy : X.N[i]? = some y) (hyl : X.env.scope.names.lookup y = some .local)
    (hsw : swapsWith (.DictComp kx vx [⟨tg, iter, ifs, 0⟩] scope pos) (some (.Name y py)) spos.line X.env = pure true) (hi : PI X tg iter wi) (ok : BlkOk X.N X.env.scope scope own)
    (hg : ∀ (s : Shared) (H : Hp) (C : Addr) (cl : List (Str × Addr)) (fp : List Addr), PG (X.blk s H scope (compEnvC scope cl C X.env) fp) tg g) (ht : ∀ (s : Shared) (H : Hp) (C : Addr) (cl : List (Str × Addr)) (fp : List Addr), PTs (X.blk s H scope (compEnvC scope cl C X.env) fp) ifs tt)
    (hk : ∀ (s : Shared) (H : Hp) (C : Addr) (cl : List (Str × Addr)) (fp : List Addr), PE (X.blk s H scope (compEnvC scope cl C X.env) fp) kx tk)
    (he : ∀ (s : Shared) (H : Hp) (C : Addr) (cl : List (Str × Addr)) (fp : List Addr), PE (X.blk s H scope (compEnvC scope cl C X.env) fp) vx tv) (hs : ∀ x, foldedSetIterable iter X.env x = pure x := by intro _; rfl) :
    PS X (.Assign [.Name y py] (.DictComp kx vx [⟨tg, iter, ifs, 0⟩] scope pos) spos) (tAsg (tDc wi g tt tk tv (own.map (·.2))) (gName i)) := by
  refine ⟨fun pins s σ H D I h => ?_⟩
  rw [exec_Assign_Name_used _ _ _ _ hsw]
  refine wpAny_bind (wpAny_standAt (wpAny_bind ?_))
  show wpAny _ X.A (do let _ ← comprehension (.DictComp kx vx [⟨tg, iter, ifs, 0⟩] scope pos) scope X.env (firstIterPos [⟨tg, iter, ifs, 0⟩] pos) newDict false (eval iter X.env) (some (assign (.Name y py) X.env))) _ _ s
  have h : tDc wi g tt tk tv (own.map (·.2)) σ H (fun x H1 => gName i x σ H1 D.nx) := h
  refine wpAny_bind (thn (dc_core (Qf := fun _ s' => L2.SP X pins D .next s') hc hN I hi ok hg ht hk he hs h fun L C s' m H' I' q hn f => ?_) fun _ s' hq => wpAny_pure (wpAny_pure hq))
  show wpAny _ _ (assign (.Name y py) X.env (.ref L)) _ _ _
  refine wpAny_assign_Name (store_ok2 (v := V.ref L) I' hN hy (.inl hyl) rfl (fun s2 I2 ⟨a, sb, ha⟩ => ?_) (.inr hyl))
  obtain ⟨f0, f1, f2, f3, f4, f5⟩ := f
  have haC : C ≠ a := by
    rcases ha with z | z
    · rw [z]; exact f1
    · exact fun e => f4 y a z e.symm
  refine ⟨m, hn.sameBut sb haC, fun h3 sb3 => ?_⟩
  exact ⟨_, H', I2.turned (t' := s2.toks) (fun b o hb e => (sb3.2 b hb).trans e) f0 f1 f3 f4 f5, q⟩
theorem ss_setDc {S : List Nat} {i : Nat} {y : Str} {py spos : Pos} {own : List (Str × Nat)} {mi : MI} {g : MG} (hc : X.calm = true) (hN : X.N.Nodup) (hy : X.N[i]? = some y) (hyl : X.env.scope.names.lookup y = some .local)
    (hsw : swapsWith (.DictComp kx vx [⟨tg, iter, ifs, 0⟩] scope pos) (some (.Name y py)) spos.line X.env = pure true) (hi : SI X W tg iter mi) (ok : BlkOk X.N X.env.scope scope own) (hS : ∀ j ∈ S, j ∈ own.map (·.2))
    (hg : ∀ (s : Shared) (H : Hp) (C : Addr) (cl : List (Str × Addr)) (fp : List Addr), SG (X.blk s H scope (compEnvC scope cl C X.env) fp) WN S tg g)
    (ht : ∀ (s : Shared) (H : Hp) (C : Addr) (cl : List (Str × Addr)) (fp : List Addr), STs (X.blk s H scope (compEnvC scope cl C X.env) fp) WN ifs t)
    (hk : ∀ (s : Shared) (H : Hp) (C : Addr) (cl : List (Str × Addr)) (fp : List Addr), SE (X.blk s H scope (compEnvC scope cl C X.env) fp) WN kx mk)
    (he : ∀ (s : Shared) (H : Hp) (C : Addr) (cl : List (Str × Addr)) (fp : List Addr), SE (X.blk s H scope (compEnvC scope cl C X.env) fp) WN vx mv) (hs : ∀ x, foldedSetIterable iter X.env x = pure x := by intro _; rfl) :
    SS X W (.Assign [.Name y py] (.DictComp kx vx [⟨tg, iter, ifs, 0⟩] scope pos) spos) (mAsg (mDc mi g t mk mv (own.map (·.2))) (gNm i)) := by
  refine PS.imp (ps_setDc (g := tT X.K WN S g) (tt := tG X.K rB WN t) (tk := tG X.K (rA X.K) WN mk) (tv := tG X.K (rA X.K) WN mv) hc hN hy hyl hsw hi ok hg ht hk he hs) fun D σ H ⟨ρ, μ, G, hσ, hG, h⟩ => dc_go hS (W := W) ⟨ρ, μ, G, hσ, hG, ?_⟩
  unfold mAsg at h
  cases e : mDc mi g t mk mv (own.map (·.2)) ρ G with
  | stuck => rw [e] at h; exact h
  | exc c d G' => rw [e] at h; exact fun H' μ' dd g hG' hd => h H' μ' σ dd g hG' (hσ.gr g) hd
  | ok v G1 =>
    rw [e] at h
    exact fun H1 μ1 z g1 hG1 r => h H1 μ1 _ g1 hG1 ((hσ.gr g1).set r)
end
end Vz
namespace Vz
open PySem PySem.Spec L2
section
variable {X : Cx} {W : WX} {o e f : Expr} {mo mi md : ME} {apos cpos : Pos}
def fDgo (v w d : AV) (G : Hs) : R AV := match dkR G v, kOf w with
  | some kvs, some k => .ok ((getA kvs k).getD d) G
  | _, _ => .stuck
def mDget1 (mo mi : ME) : ME := fun ρ G => (mo ρ G).bind fun v G1 => if (dkR G1 v).isSome = true then (mi ρ G1).bind fun w G2 => fDgo v w .non G2 else .stuck
def mDget2 (mo mi md : ME) : ME := fun ρ G => (mo ρ G).bind fun v G1 => if (dkR G1 v).isSome = true then (mi ρ G1).bind fun w G2 => (md ρ G2).bind fun u G3 => fDgo v w u G3 else .stuck
theorem RAo.orElse {K : PySem.W.Frag} {H : Hp} {μ : Mu} {u : Option AV} {o : Option V} {d : AV} {z : V} (h : RAo K H μ u o) (r : RA K H μ d z) : RA K H μ (u.getD d) (o.getD z) := by
  cases u <;> cases o <;> first | exact r | exact h.elim | exact h
theorem isD_of {K : PySem.W.Frag} {H : Hp} {μ : Mu} {G : Hs} {v : AV} {x : V} (hG : RH K H μ G) (r : RA K H μ v x) (h : (dkR G v).isSome = true) : ∃ a, x = .ref a ∧ IsD H a := by
  obtain ⟨kvs, e⟩ := Option.isSome_iff_exists.mp h
  obtain ⟨a, ws, rfl, hp, _⟩ := dkR_ok hG r e
  exact ⟨a, rfl, .inl ⟨ws, .inl hp⟩⟩
theorem dgo_go {K : PySem.W.Frag} {σ : St} {H : Hp} {μ : Mu} {G : Hs} {v w d : AV} {y z : V} {a : Addr} {Q : VK} (hG : RH K H μ G) (rv : RA K H μ v (.ref a)) (ry : RA K H μ w y) (rz : RA K H μ d z) (h : Po K (rA K) W σ H μ (fDgo v w d G) Q) : ∃ o, DGet H a y o ∧ Q (o.getD z) H := by
  unfold fDgo at h
  cases e1 : dkR G v with
  | none => rw [e1] at h; exact h.elim
  | some kvs =>
    cases e2 : kOf w with
    | none => rw [e1, e2] at h; exact h.elim
    | some k =>
      rw [e1, e2] at h
      obtain ⟨b, ws, eb, hp, rf⟩ := dkR_ok hG rv e1
      cases eb
      exact ⟨valV ws k, .inl ⟨ws, k, .inl hp, kOf_ok ry e2, rfl⟩, Po.now (v := (getA kvs k).getD d) h hG ((rf.get k).orElse rz)⟩
theorem se_dget1 (hu : X.A.units + 1 < cLine) (ho : SE X W o mo) (he : SE X W e mi) (hb : attributeBase o "get" X.env (eval o X.env) = eval o X.env := by rfl)
    (hf : ((backTo cpos (starEach [e] X.env)).all (fun x => !x.1) && (backToKw cpos (keywordEach [] X.env)).all (fun x => x.1.isSome) && decide (([e] : List Expr).length + ([] : List Keyword).length + (if ([] : List Keyword).isEmpty then 0 else 1) < 30)) = true := by rfl)
    (hl : (apos.endLine == cpos.line) = true := by rfl) (ht : backTo cpos (starEach [e] X.env) = [(false, eval e X.env)] := by rfl) : SE X W (.Call (.Attribute o "get" apos) [e] [] cpos) (mDget1 mo mi) := by
  refine PE.imp (pe_dget1 hu ho he ⟨hb, hf, hl, ht⟩) fun σ H Q ⟨ρ, μ, G, hσ, hG, h⟩ => tG.bind hσ hG h fun v G1 H1 μ1 x g1 hσ1 hG1 rv h1 => ?_
  by_cases hq : (dkR G1 v).isSome = true
  · rw [if_pos hq] at h1
    obtain ⟨a, rfl, d⟩ := isD_of hG1 rv hq
    exact ⟨a, rfl, d, tG.bind hσ1 hG1 h1 fun w G2 H2 μ2 y g2 hσ2 hG2 rw' h2 => dgo_go hG2 (rv.gr g2) rw' .non h2⟩
  · rw [if_neg hq] at h1
    exact h1.elim
end
section
variable {QV : AV → Hs → Prop} {E : XQ} {G : Hs} {ρ : En}
@[simp] theorem wp_dget1 (mo mi : ME) : (mDget1 mo mi ρ G).wp QV E = (mo ρ G).wp (fun v G => (dkR G v).isSome = true ∧ (mi ρ G).wp (fun w G => (fDgo v w .non G).wp QV E) E) E := by
  unfold mDget1
  rw [wp_bind]
  congr 1
  funext v G
  by_cases h : (dkR G v).isSome = true
  · rw [if_pos h, wp_bind]; exact propext ⟨fun x => ⟨h, x⟩, fun x => x.2⟩
  · rw [if_neg h]; exact propext ⟨fun x => x.elim, fun x => (h x.1).elim⟩
@[simp] theorem wp_dget2 (mo mi md : ME) : (mDget2 mo mi md ρ G).wp QV E = (mo ρ G).wp (fun v G => (dkR G v).isSome = true ∧ (mi ρ G).wp (fun w G => (md ρ G).wp (fun u G => (fDgo v w u G).wp QV E) E) E) E := by
  unfold mDget2
  rw [wp_bind]
  congr 1
  funext v G
  by_cases h : (dkR G v).isSome = true
  · rw [if_pos h, wp_bind]
    simp only [wp_bind]
    exact propext ⟨fun x => ⟨h, x⟩, fun x => x.2⟩
  · rw [if_neg h]; exact propext ⟨fun x => x.elim, fun x => (h x.1).elim⟩
end
end Vz
namespace TDq
open PySem PySem.W PySem.Calls PySem.Spec PyProof.Rows PyProof.V
section
variable {prog : Program} {w : World} {K : Type} [DecidableEq K] {knd : HeapKind prog w K} {A : Around} {E : Value → Shared → Prop} {s : Shared}
/-- the walk over one dict's entries, each looked for in the other -/
inductive Hits (prog : Program) (w : World) (A : Around) (s : Shared) (kb : List (K × Addr × Value)) : List (K × Addr × Value) → Bool → Prop
  | nil : Hits prog w A s kb [] true
  | miss {x : K × Addr × Value} {r : List (K × Addr × Value)} : (∀ (j : Nat) (p : Addr × Value), kb[j]? ≠ some (x.1, p)) → Hits prog w A s kb (x :: r) false
  | hit {x : K × Addr × Value} {r : List (K × Addr × Value)} {j : Nat} {p : Addr × Value} {e b : Bool} : kb[j]? = some (x.1, p) → SeqAt.EqP prog w A s x.2.2 p.2 e → Hits prog w A s kb r b → Hits prog w A s kb (x :: r) (e && b)
theorem key_once {kb : List (K × Addr × Value)} (hn : (kb.map (·.1)).Nodup) {i j : Nat} {k : K} {p q : Addr × Value} (h1 : kb[i]? = some (k, p)) (h2 : kb[j]? = some (k, q)) : p = q :=
  Option.some.inj ((atKey_of_get hn h1).symm.trans (atKey_of_get hn h2))
theorem same {nm : String} {a b : Addr} {ka kb : List (K × Addr × Value)} {r : Bool} {Q : Bool → Shared → Prop} (ha : (a == sysModules) = false) (hb : (b == sysModules) = false) (hu : knd.room A)
    (da : s.heap.DictOfH knd a ka) (db : s.heap.DictOfH knd b kb) (hits : ka.length = kb.length → Hits prog w A s kb ka r) (h : Q (ka.length == kb.length && r) s) :
    wpAny (model prog w) A (Builtin.Dict.samePairs nm a b) Q E s := by
  obtain ⟨oa, es, ep, hoa, _, hda, hea, hisa, hna⟩ := da
  obtain ⟨ob, es', ep', hob, _, hdb, heb, hisb, hnb⟩ := db
  have hla : ka.length = es.size := (size_of_entries hea).symm
  have hlb : kb.length = es'.size := (size_of_entries heb).symm
  rw [hla, hlb] at h
  unfold Builtin.Dict.samePairs Builtin.Dict.showsAll
  rw [if_neg (show ¬ (a == sysModules) = true by rw [ha]; exact Bool.false_ne_true), if_neg (show ¬ (b == sysModules) = true by rw [hb]; exact Bool.false_ne_true)]
  refine wpAny_bind (wpAny_pure (wpAny_bind (wpAny_pure ?_)))
  refine wpAny_bind (wpAny_dictEntries hoa hda ?_)
  dsimp only
  refine wpAny_bind (wpAny_dictEntries hob hdb ?_)
  by_cases hsz : es.size = es'.size
  case neg =>
    rw [if_pos (by simpa using hsz)]
    have no : (es.size == es'.size) = false := by simpa using hsz
    rw [no, Bool.false_and] at h
    exact wpAny_bind (wpAny_rule (wpAny_pure h))
  case pos =>
    have h' : Q r s := by simpa [hsz] using h
    have all := hits (by rw [hla, hlb]; exact hsz)
    rw [if_neg (by rw [hsz]; simp)]
    refine wpAny_bind (wpAny_dictEpoch hoa hda ?_)
    refine wpAny_bind ?_
    rw [Std.Legacy.Range.forIn_eq_forIn_range']
    simp only [Std.Legacy.Range.size, Nat.sub_zero, Nat.add_sub_cancel, Nat.div_one]
    refine wpAny_forIn_list _
      (fun rest q s' => s' = s ∧ q = (none, ()) ∧ ∃ i, rest = List.range' i (es.size - i) ∧ i ≤ es.size ∧ Hits prog w A s kb (ka.drop i) r)
      _ ?_ ?_ _ _ ⟨rfl, rfl, 0, by simp, Nat.zero_le _, all⟩
    · rintro x rest q s' ⟨rfl, rfl, i, hr, hi, rem⟩
      have lt : i < es.size := by
        rcases Nat.lt_or_ge i es.size with z | z
        · exact z
        · rw [Nat.sub_eq_zero_of_le z] at hr; simp at hr
      obtain ⟨rfl, hrest⟩ : x = i ∧ rest = List.range' (i + 1) (es.size - (i + 1)) := by
        rw [show es.size - i = (es.size - (i + 1)) + 1 by omega, List.range'_succ] at hr
        injection hr with h1 h2
        exact ⟨h1, h2⟩
      have lt' : x < ka.length := by rw [hla]; exact lt
      obtain ⟨k, ad, v, ekv⟩ : ∃ k ad v, ka[x] = (k, ad, v) := ⟨_, _, _, rfl⟩
      have drp : ka.drop x = (k, ad, v) :: ka.drop (x + 1) := by rw [← ekv]; exact List.drop_eq_getElem_cons lt'
      have ent : es[x]? = some ⟨knd.hash k, .ref ad, v⟩ := by
        rw [entry_at hea x, List.getElem?_eq_getElem lt', ekv]
        rfl
      have isk : knd.is s'.heap k ad := by
        have := hisa _ (List.getElem_mem lt')
        rw [ekv] at this
        exact this
      refine wpAny_bind (wpAny_dictEntries hoa hda ?_)
      rw [ent]
      rw [drp] at rem
      show wpAny _ _ (holding [.ref ad, v] _ >>= _) _ _ _
      refine wpAny_bind (wpAny_holding (wpAny_bind (wpAny_dictFind_heap hu isk hob hdb heb hisb hnb (fun none_ => ?_) fun j p hj => ?_)))
      · have er : r = false := by
          cases rem with
          | miss _ => rfl
          | hit hy _ _ => exact absurd hy (none_ _ _)
        rw [er] at h'
        refine wpAny_pure ?_
        show wpAny _ _ (if (!false) = true then _ else _) _ _ _
        rw [if_pos (by decide)]
        exact wpAny_pure (wpAny_pure h')
      · refine wpAny_bind (wpAny_dictEntries hob hdb ?_)
        have ent' : es'[j]? = some ⟨knd.hash k, .ref p.1, p.2⟩ := by
          rw [entry_at heb j, hj]
          rfl
        rw [ent']
        cases rem with
        | miss none_ => exact absurd hj (none_ j p)
        | @hit _ _ j' p' e b' hy he hrr =>
          obtain rfl := key_once hnb hj hy
          refine wpAny_holding (he _ _ ?_)
          cases e with
          | false =>
            show wpAny _ _ (if (!false) = true then _ else _) _ _ _
            rw [if_pos (by decide)]
            exact wpAny_pure (wpAny_pure h')
          | true =>
            show wpAny _ _ (if (!true) = true then _ else _) _ _ _
            rw [if_neg (by decide)]
            refine wpAny_bind (wpAny_dictEpoch hoa hda ?_)
            rw [if_neg (by simp)]
            exact wpAny_pure ⟨rfl, rfl, x + 1, hrest, lt, hrr⟩
    · rintro q s' ⟨rfl, rfl, i, hr, hi, rem⟩
      have last : i = es.size := by
        rcases Nat.lt_or_ge i es.size with z | z
        · rw [show es.size - i = (es.size - (i + 1)) + 1 by omega, List.range'_succ] at hr; exact nomatch hr
        · exact Nat.le_antisymm hi z
      refine wpAny_pure ?_
      rw [last, ← hla, List.drop_length] at rem
      cases rem
      exact h'
end
end TDq
namespace Vz
open PySem PySem.Spec L2
def kOfs : List AV → Option (List Key)
  | [] => some []
  | v :: vs => match kOf v, kOfs vs with
    | some k, some ks => some (k :: ks)
    | _, _ => none
def tkOf : AV → Option (List Key)
  | .tup xs => kOfs xs
  | _ => none
section
variable {K : PySem.W.Frag} {H : Hp} {μ : Mu} {G : Hs}
def dtOf (G : Hs) : AV → Option (Nat × List (List Key × AV))
  | .ref n => match G[n]? with
    | some (.dt kvs) => some (n, kvs)
    | _ => none
  | _ => none
/-- as it is read -/
def dtR (G : Hs) : AV → Option (List (List Key × AV))
  | .ref n => match G[n]? with
    | some (.dt kvs) => some kvs
    | _ => none
  | .it ks xs => some (ks.zip xs)
  | _ => none
end
section
variable {X : Cx} {W : WX} {o i e f value : Expr} {mo mi md mv ma mb : ME} {pos pos' apos cpos : Pos}
/-- {} -/
def mDictT : ME := fun _ G => .ok (.ref G.length) (G ++ [.dt []])
/-- d[t] = v -/
def fDpT (v w u : AV) (G : Hs) : R Unit := match dtOf G v, tkOf w with
  | some (n, kvs), some k => if kvs.length < szl then .ok () (G.set n (.dt (putA kvs k u))) else .stuck
  | _, _ => .stuck
def mDputT (mo mi mv : ME) : MS := fun ρ G => (mv ρ G).toS ρ fun u G1 => (mo ρ G1).toS ρ fun v G2 => (mi ρ G2).toS ρ fun w G3 => (fDpT v w u G3).toS ρ fun _ G4 => .nx ρ G4
def fDgoT (v w d : AV) (G : Hs) : R AV := match dtR G v, tkOf w with
  | some kvs, some k => .ok ((getA kvs k).getD d) G
  | _, _ => .stuck
def mDgetT1 (mo mi : ME) : ME := fun ρ G => (mo ρ G).bind fun v G1 => if (dtR G1 v).isSome = true then (mi ρ G1).bind fun w G2 => fDgoT v w .non G2 else .stuck
def mDgetT2 (mo mi md : ME) : ME := fun ρ G => (mo ρ G).bind fun v G1 => if (dtR G1 v).isSome = true then (mi ρ G1).bind fun w G2 => (md ρ G2).bind fun u G3 => fDgoT v w u G3 else .stuck
end
end Vz
namespace Vz
open PySem PySem.Spec L2
end Vz
namespace Vz
open PySem L2
end Vz
namespace Vz
open PySem L2
section
variable {X : Cx} {W : WX}
def mLR (m : ME) : ME := fun ρ G => (m ρ G).bind fun v G1 => match v with
  | .int n => if 0 ≤ n ∧ n ≤ 16777216 then .ok (.ref G1.length) (G1 ++ [.lst (rgA 0 n)]) else .stuck
  | _ => .stuck
end
end Vz
namespace Vz
open PySem L2 PyProof.Rows
end Vz
namespace Vz
open PySem L2
section
variable {QV : AV → Hs → Prop} {E : XQ} {G : Hs} {ρ : En} {D : SP}
@[simp] theorem wp_dictT : (mDictT ρ G).wp QV E = QV (.ref G.length) (G ++ [.dt []]) := rfl
@[simp] theorem wp_dputT (mo mi mv : ME) : (mDputT mo mi mv ρ G).wp D = (mv ρ G).wp (fun u G => (mo ρ G).wp (fun v G => (mi ρ G).wp (fun w G => (fDpT v w u G).wp (fun _ G => D.nx ρ G) D.ex) D.ex) D.ex) D.ex := by
  unfold mDputT
  simp only [wp_toS]
  rfl
@[simp] theorem wp_dgetT1 (mo mi : ME) : (mDgetT1 mo mi ρ G).wp QV E = (mo ρ G).wp (fun v G => (dtR G v).isSome = true ∧ (mi ρ G).wp (fun w G => (fDgoT v w .non G).wp QV E) E) E := by
  unfold mDgetT1
  rw [wp_bind]
  congr 1
  funext v G
  by_cases h : (dtR G v).isSome = true
  · rw [if_pos h, wp_bind]; exact propext ⟨fun x => ⟨h, x⟩, fun x => x.2⟩
  · rw [if_neg h]; exact propext ⟨fun x => x.elim, fun x => (h x.1).elim⟩
@[simp] theorem wp_dgetT2 (mo mi md : ME) : (mDgetT2 mo mi md ρ G).wp QV E = (mo ρ G).wp (fun v G => (dtR G v).isSome = true ∧ (mi ρ G).wp (fun w G => (md ρ G).wp (fun u G => (fDgoT v w u G).wp QV E) E) E) E := by
  unfold mDgetT2
  rw [wp_bind]
  congr 1
  funext v G
  by_cases h : (dtR G v).isSome = true
  · rw [if_pos h, wp_bind]
    refine propext ⟨fun x => ⟨h, ?_⟩, fun x => ?_⟩
    · simp only [wp_bind] at x
      exact x
    · simp only [wp_bind]
      exact x.2
  · rw [if_neg h]; exact propext ⟨fun x => x.elim, fun x => (h x.1).elim⟩
@[simp] theorem wp_lr (m : ME) : (mLR m ρ G).wp QV E = (m ρ G).wp (fun v G => match v with
    | .int n => (0 ≤ n ∧ n ≤ 16777216) ∧ QV (.ref G.length) (G ++ [.lst (rgA 0 n)])
    | _ => False) E := by
  unfold mLR
  rw [wp_bind]
  congr 1
  funext v G
  cases v with
  | int n =>
    by_cases h : 0 ≤ n ∧ n ≤ 16777216
    · simp only [if_pos h]
      exact propext ⟨fun x => ⟨h, x⟩, fun x => x.2⟩
    · simp only [if_neg h]
      exact propext ⟨fun x => x.elim, fun x => (h x.1).elim⟩
  | _ => rfl
end
end Vz
namespace Vz
open PySem L2
section
variable {D : SP} {ρ : En} {G : Hs}
theorem wp_nxN : (mNx ρ G).wp D = D.nx ρ G := propext Iff.rfl
theorem wp_brkN : (mBk ρ G).wp D = D.bk ρ G := propext Iff.rfl
theorem wp_contN : (mCt ρ G).wp D = D.ct ρ G := propext Iff.rfl
end
end Vz
namespace ZpM
open PySem PySem.Spec PyProof.Rows L2
/-- a list (true) or a tuple (false) -/
def Sq (k : Bool) (K : PySem.W.Frag) (H : Hp) (a : Addr) (xs : List V) : Prop := match k with
  | true => SqL K H a xs
  | false => SqT K H a xs
def IsQ (k : Bool) (h : Heap) (a : Addr) (vs : Array Value) : Prop := match k with
  | true => h.IsList a vs
  | false => h.IsTuple a vs
def IsQI (k : Bool) (h : Heap) (it a : Addr) (i : Nat) : Prop := match k with
  | true => h.IsListIter it a i
  | false => h.IsTupleIter it a i
theorem IsQ.at {k : Bool} {h h' : Heap} {a : Addr} {vs : Array Value} (x : IsQ k h a vs) (e : ∀ o, h.get? a = some o → h'.get? a = some o) : IsQ k h' a vs := by
  cases k
  · exact Heap.IsTuple.at x e
  · exact Heap.IsList.at x e
theorem IsQI.at {k : Bool} {h h' : Heap} {it a : Addr} {i : Nat} (x : IsQI k h it a i) (e : ∀ o, h.get? it = some o → h'.get? it = some o) : IsQI k h' it a i := by
  cases k
  · exact Heap.IsTupleIter.at x e
  · exact Heap.IsListIter.at x e
theorem IsQI.here {k : Bool} {h : Heap} {it a : Addr} {i : Nat} (x : IsQI k h it a i) : ∃ o, h.get? it = some o ∧ ∀ v, o.data ≠ .cell v := by
  cases k <;> (obtain ⟨o, e, _, d⟩ := x; exact ⟨o, e, fun v q => by rw [d] at q; cases q⟩)
end ZpM
namespace Vz
open PySem L2
/-- lists and tuples that nobody writes -/
def fixOf : AV → Option (Bool × List AV)
  | .tup xs => some (false, xs)
  | .con xs => some (false, xs)
  | .ls xs => some (true, xs)
  | .lk xs => some (true, xs)
  | _ => none
def zipA (xs ys : List AV) : List AV := List.zipWith (fun x y => AV.tup [x, y]) xs ys
def fZm : List AV → Hs → R Wk
  | [v, w], G => match fixOf v, fixOf w with
    | some p, some q => .ok (zipA p.2 q.2, none) G
    | _, _ => .stuck
  | _, _ => .stuck
/-- zip(a, b) -/
def mZm (ms : MEs) : MI := fun ρ G => (ms ρ G).bind fZm
section
variable {QW : Wk → Hs → Prop} {E : XQ} {ρ : En} {G : Hs}
@[simp] theorem wp_zm (ms : MEs) : (mZm ms ρ G).wp QW E = (ms ρ G).wp (fun vs G => (fZm vs G).wp QW E) E := by
  unfold mZm
  rw [wp_bind]
end
end Vz
namespace ZpM
open PySem PySem.Spec PyProof.Rows PySem.W L2
theorem Sq.len {X : Cx} {pins : List (Addr × Obj)} {σ : L2.St} {H : Hp} {s : Shared} {k : Bool} {a : Addr} {xs : List V} (I : Inv X pins σ H s) (h : Sq k X.K H a xs) : xs.length ≤ sizeLine := by
  cases k
  · obtain ⟨its, rv, p, z⟩ := I.tuple h; first | exact z | (rw [rv.length]; simpa using z)
  · obtain ⟨its, rv, p, z⟩ := I.list h; first | exact z | (rw [rv.length]; simpa using z)
end ZpM
namespace Vz
open PySem L2
end Vz
namespace Vz
open PySem PySem.Spec L2 PyProof.Rows
/-- a ring of defs, so deep -/
def ringF (st : (Nat → List AV → Hs → R AV) → Nat → List AV → Hs → R AV) : Nat → Nat → List AV → Hs → R AV
  | 0 => fun _ _ _ => .stuck
  | n + 1 => st (ringF st n)
theorem fnG_no {CX : CXT} {P : Program} {w : World} {K : PySem.W.Frag} {mg : Str → Option Value} {base : Heap} {k : Nat} {f : Addr} {fd : FuncData} {ps : List Str} : FnG P w K mg base CX k f fd ps (fsp K ps.length fun _ _ => .stuck) :=
  ⟨fun _ _ _ _ h => h.1, fun _ _ _ _ _ _ _ _ _ _ _ _ _ h => let ⟨_, _, _, _, _, _, q⟩ := h; q.elim⟩
/-- room, whatever is handled -/
structure RmQ (k : Nat) (A : Around) : Prop where
  dp : A.depth + 3 * k + 5 < recursionLimit
  un : A.units + 16 * k + 200 < cLine
  gd : A.guards = some []
section
variable {k j : Nat} {A : Around}
theorem RmQ.mono (r : RmQ k A) (h : j ≤ k) : RmQ j A := ⟨by have := r.dp; omega, by have := r.un; omega, r.gd⟩
theorem RmQ.deeper (r : RmQ (k + 1) A) (env : Env) : RmQ k (A.deeper env) := ⟨by have := r.dp; show A.depth + 1 + _ + 5 < _; omega, by have := r.un; show A.units + 3 + _ + 200 < _; omega, r.gd⟩
end
end Vz
namespace Vz
open PySem PySem.Spec L2
end Vz
namespace Vz
open PySem L2
end Vz
namespace Vz
open PySem L2
section
variable {K : PySem.W.Frag}
/-- list(d), inline -/
def keyV : Key → AV
  | .inl n => .int n
  | .inr s => .str s
end
def rgD (lo hi : Int) : List AV := (List.range (lo - hi).toNat).map fun i => .int (lo + ((i : Nat) : Int) * (-1))
@[irreducible] def fRgD : List AV → Hs → R Wk
  | [.int i, .int j, .int c], G => if c = -1 ∧ -(2 ^ 62) ≤ i ∧ i < 2 ^ 62 ∧ -(2 ^ 62) ≤ j ∧ j < 2 ^ 62 then .ok (rgD i j, none) G else .stuck
  | _, _ => .stuck
def mRgD (ms : MEs) : MI := fun ρ G => (ms ρ G).bind fRgD
section
variable {QV : AV → Hs → Prop} {QW : Wk → Hs → Prop} {E : XQ} {ρ : En} {G : Hs}
@[simp] theorem wp_rgD (ms : MEs) : (mRgD ms ρ G).wp QW E = (ms ρ G).wp (fun vs G => (fRgD vs G).wp QW E) E := by
  unfold mRgD
  rw [wp_bind]
end
end Vz
namespace Vz
open PySem L2
end Vz
namespace Pl
open PySem Vz
/-- the five sums -/
inductive Sk where
  | plus | less | times | under | same
  deriving DecidableEq
def Sk.word : Sk → Str
  | .plus => "plus"
  | .less => "less"
  | .times => "times"
  | .under => "under"
  | .same => "same"
inductive Ex where
  | num (n : Int) | box (x : Str) | ref (f : Str) | many | extra (e : Ex) | sum (k : Sk) (a b : Ex)
def Ex.av : Ex → AV
  | .num n => .tup [.str "number", .int n]
  | .box x => .tup [.str "box", .str x]
  | .ref f => .tup [.str "ref", .str f]
  | .many => .tup [.str "many"]
  | .extra e => .tup [.str "extra", e.av]
  | .sum k a b => .tup [.str k.word, a.av, b.av]
inductive St where
  | set (x : Str) (e : Ex)
  | say (e : Ex)
  | call (ts : List Str) (f : Str) (es : List Ex)
  | at_ (t : Str) (e : Ex) (es : List Ex)
  | ret (es : List Ex)
  | throw (e : Ex)
  | ite (c : Ex) (a b : List St)
  | whl (c : Ex) (b : List St)
  | try_ (a : List St) (x : Str) (b : List St)
mutual
def St.av : St → AV
  | .set x e => .tup [.str "set", .str x, e.av]
  | .say e => .tup [.str "say", e.av]
  | .call ts f es => .tup [.str "call", .tup (ts.map .str), .str f, .tup (es.map Ex.av)]
  | .at_ t e es => .tup [.str "at", .str t, e.av, .tup (es.map Ex.av)]
  | .ret es => .tup [.str "return", .tup (es.map Ex.av)]
  | .throw e => .tup [.str "throw", e.av]
  | .ite c a b => .tup [.str "if", c.av, .tup (bdA a), .tup (bdA b)]
  | .whl c b => .tup [.str "while", c.av, .tup (bdA b)]
  | .try_ a x b => .tup [.str "try", .tup (bdA a), .str x, .tup (bdA b)]
def bdA : List St → List AV
  | [] => []
  | s :: r => s.av :: bdA r
end
structure Fn where
  name : Str
  params : List Str
  body : List St
  results : Nat
  more : Bool
def strA (xs : List Str) : List AV := xs.map .str
def fnN : List Str := ["name", "params", "body", "results", "more"]
def Fn.av (f : Fn) : AV := .iv "Function" fnN [.str f.name, .tup (strA f.params), .tup (bdA f.body), .int f.results, .bl f.more]
def bookA (fs : List Fn) : AV := .iv "Book" ["functions"] [.tup (fs.map Fn.av)]
inductive En where
  | spent | fault (s : Str)
  deriving DecidableEq
def En.av : En → AV
  | .spent => .tup [.str "spent"]
  | .fault s => .tup [.str "fault", .str s]
inductive Lg where
  | inn (f : Str) (xs : List Int) | out (f : Str) (xs : List Int) | gone (f : Str)
  deriving DecidableEq
def Lg.av : Lg → AV
  | .inn f xs => .tup [.str "in", .str f, .tup (zAV xs)]
  | .out f xs => .tup [.str "out", .str f, .tup (zAV xs)]
  | .gone f => .tup [.str "gone", .str f]
def saidA (p : Int × List Str) : AV := .tup [.int p.1, .tup (strA p.2)]
structure Rs where
  fuel : Int
  work : List Str
  said : List (Int × List Str)
  log : List Lg
abbrev Bx := List (Str × Int)
def Bx.get (bx : Bx) (x : Str) : Option Int := match bx with
  | [] => none
  | (y, v) :: r => if y = x then some v else Bx.get r x
def Bx.put (bx : Bx) (x : Str) (v : Int) : Bx := if (bx.any fun p => decide (p.1 = x)) = true then bx.map (fun p => if p.1 = x then (p.1, v) else p) else bx ++ [(x, v)]
abbrev lim : Nat := 1000000
inductive Out where
  | next | ret (vs : List Int) | thrown (w : Int) | stop (e : En)
abbrev RR := Option (Out × Rs × Bx)
def exBoxes : Ex → List Str
  | .box x => [x]
  | .extra e => exBoxes e
  | .sum _ a b => exBoxes a ++ exBoxes b
  | _ => []
def esBoxes : List Ex → List Str
  | [] => []
  | e :: r => exBoxes e ++ esBoxes r
mutual
def stBoxes : St → List Str
  | .set x e => [x] ++ exBoxes e
  | .say e => exBoxes e
  | .call ts _ es => ts ++ esBoxes es
  | .at_ t e es => [t] ++ (exBoxes e ++ esBoxes es)
  | .ret es => esBoxes es
  | .throw e => exBoxes e
  | .ite c a b => exBoxes c ++ (bdBoxes a ++ bdBoxes b)
  | .whl c b => exBoxes c ++ bdBoxes b
  | .try_ a x b => bdBoxes a ++ [x] ++ bdBoxes b
def bdBoxes : List St → List Str
  | [] => []
  | s :: r => stBoxes s ++ bdBoxes r
end
/-- each once, as it comes first -/
def once (acc : List Str) : List Str → List Str
  | [] => acc
  | x :: r => if x ∈ acc then once acc r else once (acc ++ [x]) r
def Fn.boxes (f : Fn) : List Str := once [] (f.params ++ bdBoxes f.body)
def bx0 (xs : List Str) : Bx := xs.map fun x => (x, 0)
def putG (bx : Bx) (x : Str) (v : Int) : Option Bx := if lim ≤ bx.length then none else some (bx.put x v)
def puts : Bx → List Str → List Int → Option Bx
  | bx, x :: xs, v :: vs => match putG bx x v with
    | some b => puts b xs vs
    | none => none
  | bx, _, _ => some bx
def Fn.start (f : Fn) (things : List Int) : Option Bx := puts (bx0 f.boxes) f.params things
structure Ops where
  comeIn : Fn → List Int → Rs → Option (Out × Rs)
  doAll : List Int → List St → Rs → Bx → RR
  doOne : List Int → St → Rs → Bx → RR
  doPlain : List Int → St → Rs → Bx → RR
  doAt : List Int → Str → Ex → List Ex → Rs → Bx → RR
  doTry : List Int → List St → Str → List St → Rs → Bx → RR
  doWhile : List Int → Ex → List St → Rs → Bx → RR
def takes (f : Fn) (many : Nat) : Bool := decide (many = f.params.length) || (f.more && decide (f.params.length < many))
end Pl
namespace Vz
open PySem L2
section
variable {K : PySem.W.Frag}
def fExtA (v : AV) (vs : List AV) (G : Hs) : R AV := match v, vs with
  | .ref m, [.ls ys] => match G[m]? with
    | some (.lst xs) => if xs.length + ys.length ≤ szl then .ok .non (G.set m (.lst (xs ++ ys))) else .stuck
    | _ => .stuck
  | v, vs => fExt v vs G
theorem opM_extA : OpM K rExtend fExtA := by
  intro W σ H μ G v vs x xs Q hG rv rs q
  unfold fExtA at q
  split at q
  · rename_i m ys
    obtain ⟨y, rfl, ry⟩ := rs.one
    cases e1 : G[m]? with
    | none => rw [e1] at q; exact q.elim
    | some o1 =>
      rw [e1] at q
      cases o1 with
      | lst zs =>
        obtain ⟨hz, q⟩ := po_if q
        obtain ⟨p1, us, rfl, hn, hH, rz⟩ := mut_ok hG rv e1
        cases ry with
        | @ls a ws _ hl rl =>
          have gp : Gr H μ (upd H p1 (.lst (us ++ ws))) μ := Gr.put hG hn e1
          exact ⟨p1, a, us, ws, rfl, rfl, hH, hl.1, by rw [← rz.length, ← rl.length]; exact hz, q _ μ _ gp (hG.put (o := .lst (zs ++ ys)) hn e1 ⟨_, upd_same, (rz.app rl).gr gp⟩) .non⟩
      | _ => exact q.elim
  · exact opM_ext W σ H μ G _ _ x xs Q hG rv rs q
end
section
variable {QV : AV → Hs → Prop} {E : XQ} {G : Hs} {ρ : En} {D : SP}
theorem wp_extA {n : Nat} {xs ys : List AV} (h : G[n]? = some (.lst xs)) : (fExtA (.ref n) [.ls ys] G).wp QV E = (xs.length + ys.length ≤ szl ∧ QV .non (G.set n (.lst (xs ++ ys)))) := by
  unfold fExtA
  simp only [h]
  exact wp_guard _
theorem dcF_inv {gd : Option (Nat × List AV)} {g : MG} {t : MB} {mk mv : ME} {n : Nat} (I : Nat → List (Key × AV) → Hs → Prop) :
    ∀ (vs : List AV) (i : Nat) (acc : List (Key × AV)) (G : Hs), I i acc G → G[n]? = some (.dk acc) →
      (∀ j acc G, i ≤ j → j ≤ i + vs.length → I j acc G → gdOk gd G) →
      (∀ j v acc G, vs[j]? = some v → I (i + j) acc G → G[n]? = some (.dk acc) → ∃ ρ1 G1, g v ρ G = .ok ρ1 G1 ∧ (t ρ1 G1).wp (fun b G2 => if b = true then
        (mk ρ1 G2).wp (fun y G3 => (mv ρ1 G3).wp (fun z G4 => ∃ k, kOf y = some k ∧ G4[n]? = some (.dk acc) ∧ acc.length < szl ∧ I (i + j + 1) (putA acc k z) (G4.set n (.dk (putA acc k z)))) noX) noX
        else G2[n]? = some (.dk acc) ∧ I (i + j + 1) acc G2) noX) →
      (dcF gd g t mk mv n ρ vs G).wp (fun _ G2 => ∃ acc, G2[n]? = some (.dk acc) ∧ I (i + vs.length) acc G2) noX
  | [], i, acc, G, h, hn, hg, hs => by
    have z := hg i acc G (Nat.le_refl _) (Nat.le_add_right _ _) h
    unfold dcF
    rw [if_pos z]
    exact ⟨acc, hn, h⟩
  | v :: vs, i, acc, G, h, hn, hg, hs => by
    have z := hg i acc G (Nat.le_refl _) (Nat.le_add_right _ _) h
    obtain ⟨ρ1, G1, e1, q⟩ := hs 0 v acc G rfl h hn
    have rest : ∀ acc' G', I (i + 1) acc' G' → G'[n]? = some (.dk acc') → (dcF gd g t mk mv n ρ vs G').wp (fun _ G2 => ∃ acc, G2[n]? = some (.dk acc) ∧ I (i + (v :: vs).length) acc G2) noX := fun acc' G' h' hn' => by
      have := dcF_inv I vs (i + 1) acc' G' h' hn' (fun j a G'' l1 l2 => hg j a G'' (by omega) (by simp only [List.length_cons]; omega)) (fun j w a G'' e hI hN => by
        have e2 : i + 1 + j = i + (j + 1) := by omega
        have e3 : i + 1 + j + 1 = i + (j + 1) + 1 := by omega
        rw [e2] at hI
        rw [e3]
        exact hs (j + 1) w a G'' e hI hN)
      have e4 : i + 1 + vs.length = i + (v :: vs).length := by simp only [List.length_cons]; omega
      rw [e4] at this
      exact this
    unfold dcF
    rw [if_pos z, e1]
    simp only
    cases et : t ρ1 G1 with
    | stuck => rw [et] at q; exact q.elim
    | exc c d G' => rw [et] at q; exact q.elim
    | ok b G2 =>
      rw [et] at q
      cases b with
      | false =>
        obtain ⟨q1, q2⟩ : G2[n]? = some (.dk acc) ∧ I (i + 0 + 1) acc G2 := q
        exact rest acc G2 q2 q1
      | true =>
        have q : (mk ρ1 G2).wp (fun y G3 => (mv ρ1 G3).wp (fun z G4 => ∃ k, kOf y = some k ∧ G4[n]? = some (.dk acc) ∧ acc.length < szl ∧ I (i + 0 + 1) (putA acc k z) (G4.set n (.dk (putA acc k z)))) noX) noX := q
        simp only
        cases ek : mk ρ1 G2 with
        | stuck => rw [ek] at q; exact q.elim
        | exc c d G' => rw [ek] at q; exact q.elim
        | ok y G3 =>
          rw [ek] at q
          have q : (mv ρ1 G3).wp (fun z G4 => ∃ k, kOf y = some k ∧ G4[n]? = some (.dk acc) ∧ acc.length < szl ∧ I (i + 0 + 1) (putA acc k z) (G4.set n (.dk (putA acc k z)))) noX := q
          simp only
          cases ev : mv ρ1 G3 with
          | stuck => rw [ev] at q; exact q.elim
          | exc c d G' => rw [ev] at q; exact q.elim
          | ok zz G4 =>
            rw [ev] at q
            obtain ⟨k, q1, q2, q3, q4⟩ : ∃ k, kOf y = some k ∧ G4[n]? = some (.dk acc) ∧ acc.length < szl ∧ I (i + 0 + 1) (putA acc k zz) (G4.set n (.dk (putA acc k zz))) := q
            simp only [q1, q2, if_pos q3]
            refine rest _ _ q4 ?_
            rw [List.getElem?_set_self (List.getElem?_eq_some_iff.mp q2).1]
theorem wp_dc {mi : MI} {g : MG} {t : MB} {mk mv : ME} {own : List Nat} (I : Nat → List (Key × AV) → Hs → Prop) (h : (mi ρ G).wp (fun k G0 => I 0 [] (G0 ++ [.dk []]) ∧ (∀ j acc G, j ≤ k.1.length → I j acc G → gdOk k.2 G) ∧
      (∀ j v acc G, k.1[j]? = some v → I j acc G → G[G0.length]? = some (.dk acc) → ∃ ρ1 G1, g v (wipeA ρ own) G = .ok ρ1 G1 ∧ (t ρ1 G1).wp (fun b G2 => if b = true then
        (mk ρ1 G2).wp (fun y G3 => (mv ρ1 G3).wp (fun z G4 => ∃ q, kOf y = some q ∧ G4[G0.length]? = some (.dk acc) ∧ acc.length < szl ∧ I (j + 1) (putA acc q z) (G4.set G0.length (.dk (putA acc q z)))) noX) noX
        else G2[G0.length]? = some (.dk acc) ∧ I (j + 1) acc G2) noX) ∧
      ∀ acc G, G[G0.length]? = some (.dk acc) → I k.1.length acc G → QV (.ref G0.length) G) E) : (mDc mi g t mk mv own ρ G).wp QV E := by
  unfold mDc
  rw [wp_bind]
  refine h.mono (fun k G ⟨h0, hg, hs, he⟩ => ?_) fun _ _ _ x => x
  rw [wp_bind]
  have := dcF_inv (gd := k.2) (g := g) (t := t) (mk := mk) (mv := mv) (n := G.length) (ρ := wipeA ρ own) I k.1 0 [] (G ++ [.dk []]) h0 (by simp) (fun j acc G _ l h => hg j acc G (by omega) h) (fun j v acc G e h hn => by
    rw [Nat.zero_add] at h ⊢
    exact hs j v acc G e h hn)
  refine this.to fun _ G2 ⟨acc, hn, hI⟩ => ?_
  rw [Nat.zero_add] at hI
  exact he acc G2 hn hI
end
end Vz
namespace Pl
open PySem Vz
structure FrP (P : Nat → Prop) (G G' : Hs) : Prop where
  le : G.length ≤ G'.length
  at_ : ∀ n, ¬ P n → n < G.length → G'[n]? = G[n]?
section
variable {P Q : Nat → Prop} {G G1 G2 : Hs}
theorem FrP.refl : FrP P G G := ⟨Nat.le_refl _, fun _ _ _ => rfl⟩
theorem FrP.trans (h : FrP P G G1) (k : FrP P G1 G2) : FrP P G G2 := ⟨Nat.le_trans h.le k.le, fun n hn hl => (k.at_ n hn (Nat.lt_of_lt_of_le hl h.le)).trans (h.at_ n hn hl)⟩
theorem FrP.mono (h : FrP P G G1) (l : ∀ n, P n → Q n) : FrP Q G G1 := ⟨h.le, fun n hn hl => h.at_ n (fun z => hn (l n z)) hl⟩
theorem FrP.kp (h : Kp 0 G G1) : FrP P G G1 := ⟨h.le, fun n _ hl => h.at_ n (Nat.zero_le _) hl⟩
theorem FrP.set {n : Nat} {o : AO} (h : FrP P G G1) (hn : P n) : FrP P G (G1.set n o) := ⟨by rw [List.length_set]; exact h.le, fun m hm hl => (List.getElem?_set_ne fun e => hm (by rw [← e]; exact hn)).trans (h.at_ m hm hl)⟩
theorem FrP.app {o : List AO} (h : FrP P G G1) : FrP P G (G1 ++ o) := h.trans ⟨by simp, fun n _ hl => List.getElem?_append_left hl⟩
theorem FrP.get {n : Nat} {o : AO} (h : FrP P G G1) (hn : ¬ P n) (e : G[n]? = some o) : G1[n]? = some o := (h.at_ n hn (List.getElem?_eq_some_iff.mp e).1).trans e
end
/-- where a run's things stand -/
structure Ad where
  R : Nat
  w : Nat
  s : Nat
  l : Nat
def Ad.mem (A : Ad) (n : Nat) : Prop := n = A.R ∨ n = A.w ∨ n = A.s ∨ n = A.l
def runF (A : Ad) (fs : List Fn) (fuel : Int) : List (Str × AV) := [("book", bookA fs), ("fuel", .int fuel), ("work", .ref A.w), ("said", .ref A.s), ("log", .ref A.l)]
structure RunH (A : Ad) (fs : List Fn) (st : Rs) (G : Hs) : Prop where
  r : G[A.R]? = some (.ins "Running" (runF A fs st.fuel))
  w : G[A.w]? = some (.lst (strA st.work))
  s : G[A.s]? = some (.lst (st.said.map saidA))
  l : G[A.l]? = some (.lst (st.log.map Lg.av))
  ne : A.w ≠ A.s ∧ A.w ≠ A.l ∧ A.s ≠ A.l
def bxK (bx : Bx) : List (L2.Key × AV) := bx.map fun p => (.inr p.1, .int p.2)
def BxH (d : Nat) (bx : Bx) (G : Hs) : Prop := G[d]? = some (.dk (bxK bx))
section
variable {A : Ad} {fs : List Fn} {st : Rs} {G G1 : Hs} {d : Nat} {bx : Bx}
theorem RunH.neR (h : RunH A fs st G) : A.R ≠ A.w ∧ A.R ≠ A.s ∧ A.R ≠ A.l := by
  refine ⟨fun e => ?_, fun e => ?_, fun e => ?_⟩
  · have := h.r; rw [e, h.w] at this; cases this
  · have := h.r; rw [e, h.s] at this; cases this
  · have := h.r; rw [e, h.l] at this; cases this
theorem RunH.nd (h : RunH A fs st G) (b : BxH d bx G) : ¬ A.mem d := by
  unfold BxH at b
  rintro (e | e | e | e)
  · rw [e, h.r] at b; cases b
  · rw [e, h.w] at b; cases b
  · rw [e, h.s] at b; cases b
  · rw [e, h.l] at b; cases b
theorem RunH.fr {P : Nat → Prop} (h : RunH A fs st G) (f : FrP P G G1) (hp : ∀ n, A.mem n → ¬ P n) : RunH A fs st G1 :=
  ⟨f.get (hp _ (.inl rfl)) h.r, f.get (hp _ (.inr (.inl rfl))) h.w, f.get (hp _ (.inr (.inr (.inl rfl)))) h.s, f.get (hp _ (.inr (.inr (.inr rfl)))) h.l, h.ne⟩
theorem RunH.kp (h : RunH A fs st G) (k : Kp 0 G G1) : RunH A fs st G1 := h.fr (P := fun _ => False) (.kp k) fun _ _ z => z
theorem BxH.kp (h : BxH d bx G) (k : Kp 0 G G1) : BxH d bx G1 := k.get0 h
theorem lt_of {n : Nat} {o : AO} (h : G[n]? = some o) : n < G.length := (List.getElem?_eq_some_iff.mp h).1
theorem set_self {n : Nat} {o o' : AO} (h : G[n]? = some o) : (G.set n o')[n]? = some o' := List.getElem?_set_self (lt_of h)
theorem set_other {n m : Nat} {o' : AO} (h : m ≠ n) : (G.set n o')[m]? = G[m]? := List.getElem?_set_ne fun e => h e.symm
theorem RunH.fuel (h : RunH A fs st G) (g : Int) : RunH A fs { st with fuel := g } (G.set A.R (.ins "Running" (runF A fs g))) := by
  obtain ⟨n1, n2, n3⟩ := h.neR
  exact ⟨set_self h.r, (set_other n1.symm).trans h.w, (set_other n2.symm).trans h.s, (set_other n3.symm).trans h.l, h.ne⟩
theorem RunH.work (h : RunH A fs st G) (ws : List Str) : RunH A fs { st with work := ws } (G.set A.w (.lst (strA ws))) := by
  obtain ⟨n1, n2, n3⟩ := h.neR
  exact ⟨(set_other n1).trans h.r, set_self h.w, (set_other h.ne.1.symm).trans h.s, (set_other h.ne.2.1.symm).trans h.l, h.ne⟩
theorem RunH.said (h : RunH A fs st G) (xs : List (Int × List Str)) : RunH A fs { st with said := xs } (G.set A.s (.lst (xs.map saidA))) := by
  obtain ⟨n1, n2, n3⟩ := h.neR
  exact ⟨(set_other n2).trans h.r, (set_other h.ne.1).trans h.w, set_self h.s, (set_other h.ne.2.2.symm).trans h.l, h.ne⟩
theorem RunH.log (h : RunH A fs st G) (xs : List Lg) : RunH A fs { st with log := xs } (G.set A.l (.lst (xs.map Lg.av))) := by
  obtain ⟨n1, n2, n3⟩ := h.neR
  exact ⟨(set_other n3).trans h.r, (set_other h.ne.2.1).trans h.w, (set_other h.ne.2.2).trans h.s, set_self h.l, h.ne⟩
def Ex.dep : Ex → Nat
  | .extra e => e.dep + 1
  | .sum _ a b => max a.dep b.dep + 1
  | _ => 1
mutual
def St.dep : St → Nat
  | .ite _ a b => max (bdDep a) (bdDep b) + 1
  | .whl _ b => bdDep b + 1
  | .try_ a _ b => max (bdDep a) (bdDep b) + 1
  | _ => 1
def bdDep : List St → Nat
  | [] => 0
  | s :: r => max s.dep (bdDep r)
end
def exsDep : List Ex → Nat
  | [] => 0
  | e :: r => max e.dep (exsDep r)
/-- the expressions of a statement -/
def St.exs : St → List Ex
  | .set _ e => [e]
  | .say e => [e]
  | .call _ _ es => es
  | .at_ _ e es => [e] ++ es
  | .ret es => es
  | .throw e => [e]
  | .ite c _ _ => [c]
  | .whl c _ => [c]
  | .try_ _ _ _ => []
mutual
/-- all statements of a body are so -/
def stAll (p : St → Bool) : St → Bool
  | .ite c a b => p (.ite c a b) && (bdAll p a && bdAll p b)
  | .whl c b => p (.whl c b) && bdAll p b
  | .try_ a x b => p (.try_ a x b) && (bdAll p a && bdAll p b)
  | s => p s
def bdAll (p : St → Bool) : List St → Bool
  | [] => true
  | s :: r => stAll p s && bdAll p r
end
/-- fit for the layer: few parts, not too deep -/
def stFit (s : St) : Bool := decide (exsDep s.exs ≤ 12) && decide (s.exs.length ≤ 1000)
def Fn.fit (f : Fn) : Bool := bdAll stFit f.body && decide (bdDep f.body ≤ 12) && decide (f.params.length ≤ 1000) && decide ((f.params ++ bdBoxes f.body).length ≤ 100000)
end
end Pl
namespace Vz
open PySem L2
end Vz
namespace Pl
open PySem Vz
def Ex.parts : Ex → List Ex
  | .extra e => [e]
  | .sum _ a b => [a, b]
  | _ => []
def Ex.subs : Ex → List Ex
  | .extra e => .extra e :: e.subs
  | .sum k a b => .sum k a b :: (a.subs ++ b.subs)
  | e => [e]
def subsOf : List Ex → List Ex
  | [] => []
  | e :: r => e.subs ++ subsOf r
theorem subs_parts (e : Ex) : e.subs = e :: subsOf e.parts := by
  cases e <;> simp [Ex.subs, Ex.parts, subsOf]
theorem subs_len : ∀ e : Ex, e.subs.length + 1 ≤ 2 ^ e.dep
  | .num _ => by simp [Ex.subs, Ex.dep]
  | .box _ => by simp [Ex.subs, Ex.dep]
  | .ref _ => by simp [Ex.subs, Ex.dep]
  | .many => by simp [Ex.subs, Ex.dep]
  | .extra e => by
    have h := subs_len e
    have h1 : 1 ≤ 2 ^ e.dep := Nat.one_le_two_pow
    simp only [Ex.subs, Ex.dep, List.length_cons, Nat.pow_succ]
    omega
  | .sum k a b => by
    have h1 := subs_len a
    have h2 := subs_len b
    have l1 : 2 ^ a.dep ≤ 2 ^ (max a.dep b.dep) := Nat.pow_le_pow_right (by decide) (by omega)
    have l2 : 2 ^ b.dep ≤ 2 ^ (max a.dep b.dep) := Nat.pow_le_pow_right (by decide) (by omega)
    simp only [Ex.subs, Ex.dep, List.length_cons, List.length_append, Nat.pow_succ]
    omega
theorem subsOf_len {n : Nat} : ∀ es : List Ex, exsDep es ≤ n → (subsOf es).length ≤ es.length * 2 ^ n
  | [], _ => by simp [subsOf]
  | e :: r, h => by
    simp only [exsDep] at h
    have h1 := subs_len e
    have h2 := subsOf_len r (n := n) (by omega)
    have l1 : 2 ^ e.dep ≤ 2 ^ n := Nat.pow_le_pow_right (by decide) (by omega)
    simp only [subsOf, List.length_append, List.length_cons, Nat.add_mul, Nat.one_mul]
    omega
theorem parts_dep (e : Ex) : exsDep e.parts + 1 ≤ e.dep ∨ e.parts = [] := by
  cases e <;> simp [Ex.parts, exsDep, Ex.dep] <;> omega
theorem dep_pos (e : Ex) : 1 ≤ e.dep := by cases e <;> simp [Ex.dep]
theorem exsDep_mem {e : Ex} : ∀ {es : List Ex}, e ∈ es → e.dep ≤ exsDep es
  | [], h => nomatch h
  | f :: r, h => by
    simp only [exsDep]
    rcases List.mem_cons.mp h with q | q
    · subst q; omega
    · have := exsDep_mem q; omega
def isBox : Ex → Option Str
  | .box x => some x
  | _ => none
theorem exBoxes_subs : ∀ e : Ex, exBoxes e = e.subs.filterMap isBox
  | .num _ => rfl
  | .box _ => rfl
  | .ref _ => rfl
  | .many => rfl
  | .extra e => by
    rw [Ex.subs, List.filterMap_cons_none rfl, ← exBoxes_subs e]
    rfl
  | .sum k a b => by
    rw [Ex.subs, List.filterMap_cons_none rfl, List.filterMap_append, ← exBoxes_subs a, ← exBoxes_subs b]
    rfl
theorem esBoxes_subs : ∀ es : List Ex, esBoxes es = (subsOf es).filterMap isBox
  | [] => rfl
  | e :: r => by simp [esBoxes, subsOf, exBoxes_subs e, esBoxes_subs r]
/-- the boxes that a statement gives something, but a try's -/
def St.given : St → List Str
  | .set x _ => [x]
  | .call ts _ _ => ts
  | .at_ t _ _ => [t]
  | _ => []
def St.bodies : St → List (List St)
  | .ite _ a b => [a, b]
  | .whl _ b => [b]
  | _ => []
def St.isTry : St → Bool
  | .try_ _ _ _ => true
  | _ => false
end Pl
namespace Vz
open PySem PySem.Spec L2
def rEqE (K : PySem.W.Frag) (n : Bool) : R2 := fun x y H Q => ∃ a b xs, x = .ref a ∧ y = .ref b ∧ SqT K H a xs ∧ SqT K H b [] ∧ Q (.bl (if n then !xs.isEmpty else xs.isEmpty)) H
section
variable {X : Cx}
theorem op_eqE (hu : X.A.units + 64 < cLine) : OpR X (compareOp .Eq) (rEqE X.K false) := by
  intro pins s σ H x y v u Q I rx ry ⟨a, b, xs, ex, ey, ha, hb, q⟩
  subst ex ey
  cases rx
  cases ry
  obtain ⟨its, r1, h1, _⟩ := I.tuple ha
  obtain ⟨its2, r2, h2, _⟩ := I.tuple hb
  cases r2
  have z1 : its.length = xs.length := r1.length.symm
  refine SeqAt.RcAt.tuples (e := fun _ => true) h1 h2 (by omega) (fun j _ j2 => absurd j2 (by simp)) _ _ _ _ ?_
  refine ⟨.bl _, H, I, rfl, ?_⟩
  have e : ((List.range (min its.toArray.size ([] : List Value).toArray.size)).all (fun _ => true) && its.toArray.size == ([] : List Value).toArray.size) = xs.isEmpty := by
    rw [List.size_toArray, z1]
    cases xs <;> simp
  rw [e]
  exact q
end
def fEqE (v w : AV) (G : Hs) : R AV := match tupOf v, tupOf w with
  | some xs, some [] => .ok (.bl xs.isEmpty) G
  | _, _ => .stuck
theorem op2_eqE {K : PySem.W.Frag} : Op2 K (rEqE K false) fEqE := by
  intro W σ H μ G v w x y Q hG rv rw' q
  unfold fEqE at q
  cases e : tupOf v with
  | none => rw [e] at q; exact q.elim
  | some xs =>
    cases e2 : tupOf w with
    | none => rw [e, e2] at q; exact q.elim
    | some ys =>
      rw [e, e2] at q
      cases ys with
      | cons y l => exact q.elim
      | nil =>
        obtain ⟨a, vs, rfl, h1, rs⟩ := tupOf_ok rv e
        obtain ⟨b, ws, rfl, h2, rs2⟩ := tupOf_ok rw' e2
        cases rs2
        refine ⟨a, b, vs, rfl, rfl, h1, h2, ?_⟩
        have el : vs.isEmpty = xs.isEmpty := by cases rs <;> rfl
        rw [if_neg (by decide), el]
        exact Po.now (v := AV.bl xs.isEmpty) q hG (.bl _)
section
variable {QV : AV → Hs → Prop} {E : XQ} {G : Hs}
theorem wp_eqE {xs : List AV} : (fEqE (.tup xs) (.tup []) G).wp QV E = QV (.bl xs.isEmpty) G := rfl
end
end Vz
namespace Vz
open PySem PySem.Spec L2 PyProof.Rows
open AutoSeq1 (wpAny_loadPart')
end Vz
namespace Vz
open PySem L2
section
variable {QV : AV → Hs → Prop} {QB : Bool → Hs → Prop} {QVs : List AV → Hs → Prop} {E : XQ} {D : SP} {ρ : En} {G : Hs} {i j : Int} {xs : List AV}
theorem wp_okN {α : Type} {Q : α → Hs → Prop} (v : α) : (R.ok v G).wp Q E = Q v G := propext Iff.rfl
theorem wp_retNN : (mRetN ρ G).wp D = D.rt .non G := propext Iff.rfl
theorem wp_cN (v : AV) : (mC v ρ G).wp QV E = QV v G := propext Iff.rfl
theorem wp_nilN : (mNil ρ G).wp QVs E = QVs [] G := propext Iff.rfl
theorem wp_oNN {QO : Option Int → Hs → Prop} : (mNone ρ G).wp QO E = QO none G := propext Iff.rfl
theorem wp_addN : (fAdd (.int i) (.int j) G).wp QV E = QV (.int (i + j)) G := propext Iff.rfl
theorem wp_subN : (fSub (.int i) (.int j) G).wp QV E = QV (.int (i - j)) G := propext Iff.rfl
theorem wp_ltN : (fLt (.int i) (.int j) G).wp QV E = QV (.bl (decide (i < j))) G := propext Iff.rfl
theorem wp_leN : (fLe (.int i) (.int j) G).wp QV E = QV (.bl (decide (i ≤ j))) G := propext Iff.rfl
theorem wp_gtN : (fGt (.int i) (.int j) G).wp QV E = QV (.bl (decide (j < i))) G := propext Iff.rfl
theorem wp_geN : (fGe (.int i) (.int j) G).wp QV E = QV (.bl (decide (j ≤ i))) G := propext Iff.rfl
theorem wp_eqN : (fEq (.int i) (.int j) G).wp QV E = QV (.bl (decide (i = j))) G := propext Iff.rfl
theorem wp_neN : (fNe (.int i) (.int j) G).wp QV E = QV (.bl (!decide (i = j))) G := propext Iff.rfl
theorem wp_eqSN {a b : Str} : (fEq (.str a) (.str b) G).wp QV E = QV (.bl (decide (a = b))) G := propext Iff.rfl
theorem wp_neSN {a b : Str} : (fNe (.str a) (.str b) G).wp QV E = QV (.bl (!decide (a = b))) G := propext Iff.rfl
theorem wp_eqBN {a b : Bool} : (fEq (.bl a) (.bl b) G).wp QV E = QV (.bl (decide (a = b))) G := propext Iff.rfl
theorem wp_neBN {a b : Bool} : (fNe (.bl a) (.bl b) G).wp QV E = QV (.bl (!decide (a = b))) G := propext Iff.rfl
theorem mg_nmN (i : Nat) (v : AV) : MG.wp (gNm i v ρ G) D = D.nx (ρ.set i (some v)) G := propext Iff.rfl
theorem isN_nN : (fIsN .non .non G).wp QV E = QV (.bl true) G := propext Iff.rfl
theorem notN_nN : (fNotN .non .non G).wp QV E = QV (.bl false) G := propext Iff.rfl
theorem isN_iN {i : Int} : (fIsN (.int i) .non G).wp QV E = QV (.bl false) G := propext Iff.rfl
theorem notN_iN {i : Int} : (fNotN (.int i) .non G).wp QV E = QV (.bl true) G := propext Iff.rfl
theorem fzQ_lsN (xs : List AV) : fzQ QV (.ls xs) G = QV (.ls xs) G := propext Iff.rfl
theorem fzQ_tupN (xs : List AV) : fzQ QV (.tup xs) G = QV (.tup xs) G := propext Iff.rfl
theorem fzQ_ivN (c ns) (xs : List AV) : fzQ QV (.iv c ns xs) G = QV (.iv c ns xs) G := propext Iff.rfl
theorem fzQ_intN (i : Int) : fzQ QV (.int i) G = QV (.int i) G := propext Iff.rfl
theorem fzQ_strN (i : Str) : fzQ QV (.str i) G = QV (.str i) G := propext Iff.rfl
theorem fzQ_blN (i : Bool) : fzQ QV (.bl i) G = QV (.bl i) G := propext Iff.rfl
theorem fzQ_nonN : fzQ QV .non G = QV .non G := propext Iff.rfl
theorem wp_addIN : (fAddI (.int i) (.int j) G).wp QV E = QV (.int (i + j)) G := propext Iff.rfl
theorem wp_iaddIN : (fIAddI (.int i) (.int j) G).wp QV E = QV (.int (i + j)) G := propext Iff.rfl
theorem len_lsN : (fLen [.ls xs] G).wp QV E = QV (.int xs.length) G := propext Iff.rfl
theorem list_lsN : (fListI [.ls xs] G).wp QV E = QV (.ls xs) G := propext Iff.rfl
theorem tuple_lsN : (fTuple [.ls xs] G).wp QV E = QV (.tup xs) G := propext Iff.rfl
theorem starts_SN {a c : Str} : (fStarts (.str a) [.str c] G).wp QV E = QV (.bl (Txt.startswith a c)) G := propext Iff.rfl
end
end Vz
namespace Vz
open PySem PySem.Spec L2
section
variable {K : PySem.W.Frag}
def rDictD : List V → Hp → VK → Prop := fun xs H Q => ∃ (a : Addr) (kvs : List (Key × V)), xs = [.ref a] ∧ Rd H a (.dK kvs) ∧ ∀ p, H p = none → Q (.ref p) (upd H p (.dK kvs))
def rDictP (K : PySem.W.Frag) : List V → Hp → VK → Prop := fun xs H Q => ∃ (a : Addr) (ps : List Addr) (kvs : List (Key × V)), xs = [.ref a] ∧ SqL K H a (ps.map V.ref) ∧ Paired (fun p kv => SqT K H p [kV kv.1, kv.2]) ps kvs ∧
    ∀ p, H p = none → Q (.ref p) (upd H p (.dK (mergeK [] kvs)))
def rDictA (K : PySem.W.Frag) : List V → Hp → VK → Prop := fun xs H Q => rDictD xs H Q ∨ rDictP K xs H Q
theorem call_dictA {X : Cx} (hc : X.calm = true) : CallR X (.type "dict") (rDictA X.K) := CallR.or call_dictD (call_dictP hc)
/-- a pair of a key and something -/
def pairA : AV → Option (Key × AV)
  | .tup [k, v] => (kOf k).map fun k => (k, v)
  | _ => none
def pairsA : List AV → Option (List (Key × AV))
  | [] => some []
  | x :: xs => match pairA x, pairsA xs with
    | some p, some ps => some (p :: ps)
    | _, _ => none
theorem pairA_ok {H : Hp} {μ : Mu} {x : AV} {v : V} {p : Key × AV} (r : RA K H μ x v) (e : pairA x = some p) : ∃ a z, v = .ref a ∧ SqT K H a [kV p.1, z] ∧ RA K H μ p.2 z := by
  unfold pairA at e
  split at e
  · rename_i k w
    cases r with
    | tup h rs =>
      obtain ⟨k', ek, rfl⟩ := Option.map_eq_some_iff.mp e
      cases rs with
      | cons r1 rs =>
        cases rs with
        | cons r2 rs =>
          cases rs
          have := kOf_ok r1 ek
          subst this
          exact ⟨_, _, rfl, .inl (.inl h), r2⟩
  · cases e
theorem pairsA_ok {H : Hp} {μ : Mu} : ∀ {xs : List AV} {vs : List V} {kvs : List (Key × AV)}, RAs K H μ xs vs → pairsA xs = some kvs → ∃ (ps : List Addr) (ws : List (Key × V)), vs = ps.map V.ref ∧ Paired (fun p kv => SqT K H p [kV kv.1, kv.2]) ps ws ∧ RF K H μ kvs ws
  | [], _, _, .nil, e => by cases e; exact ⟨[], [], rfl, .nil, .nil'⟩
  | x :: xs, _, _, .cons r rs, e => by
    unfold pairsA at e
    cases e1 : pairA x with
    | none => rw [e1] at e; cases e
    | some p =>
      cases e2 : pairsA xs with
      | none => rw [e1, e2] at e; cases e
      | some kvs =>
        rw [e1, e2] at e
        cases e
        obtain ⟨a, z, rfl, h1, h2⟩ := pairA_ok r e1
        obtain ⟨ps, ws, rfl, h3, h4⟩ := pairsA_ok rs e2
        exact ⟨a :: ps, (p.1, z) :: ws, rfl, .cons h1 h3, .cons h2 h4⟩
def fDictA : List AV → Hs → R AV
  | [v], G => match dkR G v with
    | some kvs => .ok (.ref G.length) (G ++ [.dk kvs])
    | none => match lstOf G v with
      | some xs => match pairsA xs with
        | some kvs => .ok (.ref G.length) (G ++ [.dk (mergeA kvs)])
        | none => .stuck
      | none => .stuck
  | _, _ => .stuck
theorem opN_dictA : OpN K (rDictA K) fDictA := by
  intro W σ H μ G vs xs Q hG rs q
  match vs, rs, q with
  | [v], rs, q =>
    obtain ⟨y, rfl, r⟩ := rs.one
    simp only [fDictA] at q
    cases e : dkR G v with
    | some kvs =>
      rw [e] at q
      obtain ⟨a, ws, rfl, hs, rf⟩ := dkR_ok hG r e
      exact .inl ⟨a, ws, rfl, .inl hs, fun p hp => q _ _ _ (Gr.alloc hp) (hG.alloc hp ⟨ws, upd_same, rf.gr (Gr.alloc hp)⟩) (.ref (hG.fresh p))⟩
    | none =>
      rw [e] at q
      cases e1 : lstOf G v with
      | none => rw [e1] at q; exact q.elim
      | some ys =>
        rw [e1] at q
        cases e2 : pairsA ys with
        | none => simp only [e2] at q; exact q.elim
        | some kvs =>
          simp only [e2] at q
          obtain ⟨a, us, rfl, hs, rz⟩ := lstOf_ok hG r e1
          obtain ⟨ps, ws, rfl, h3, h4⟩ := pairsA_ok rz e2
          exact .inr ⟨a, ps, ws, rfl, hs, h3, fun p hp => q _ _ _ (Gr.alloc hp) (hG.alloc hp (o := .dk (mergeA kvs)) ⟨_, upd_same, (merge_ok h4 .nil').gr (Gr.alloc hp)⟩) (.ref (hG.fresh p))⟩
  | [], _, q => exact q.elim
  | _ :: _ :: _, _, q => exact q.elim
def isD (v : AV) (G : Hs) : Bool := (dkR G v).isSome
theorem tyM_d {K : PySem.W.Frag} : TyM K "dict" isD := fun H μ G v x hG r h => by
  unfold isD at h
  cases e : dkR G v with
  | none => rw [e] at h; cases h
  | some xs =>
    obtain ⟨a, ws, rfl, hs, _⟩ := dkR_ok hG r e
    exact .inr (.inr (.inl ⟨rfl, .inl ⟨ws, hs⟩⟩))
theorem mutD_ok {H : Hp} {μ : Mu} {G : Hs} {n : Nat} {x : V} {kvs : List (Key × AV)} (hG : RH K H μ G) (r : RA K H μ (.ref n) x) (e : G[n]? = some (.dk kvs)) : ∃ a ws, x = .ref a ∧ Num μ n a ∧ H a = some (.dK ws) ∧ RF K H μ kvs ws := by
  cases r with
  | ref h =>
    obtain ⟨ws, h1, h2⟩ := hG.at_ _ _ _ h e
    exact ⟨_, ws, rfl, h, h1, h2⟩
def fDClear : AV → List AV → Hs → R AV
  | .ref n, [], G => match G[n]? with
    | some (.dk _) => .ok .non (G.set n (.dk []))
    | _ => .stuck
  | _, _, _ => .stuck
theorem opM_dclear : OpM K rDClear fDClear := by
  intro W σ H μ G v vs x xs Q hG rv rs q
  match v, vs, rv, rs, q with
  | .ref n, [], rv, .nil, q =>
    simp only [fDClear] at q
    cases e : G[n]? with
    | none => rw [e] at q; exact q.elim
    | some ob =>
      rw [e] at q
      cases ob with
      | dk kvs =>
        obtain ⟨a, ws, rfl, hn, hH, rz⟩ := mutD_ok hG rv e
        exact ⟨a, ws, rfl, rfl, hH, q _ μ _ (Gr.put hG hn e) (hG.put (o := .dk []) hn e ⟨[], upd_same, .nil'⟩) .non⟩
      | _ => exact q.elim
  | .ref n, _ :: _, _, _, q => exact q.elim
  | .non, _, _, _, q => exact q.elim
  | .bl _, _, _, _, q => exact q.elim
  | .int _, _, _, _, q => exact q.elim
  | .str _, _, _, _, q => exact q.elim
  | .tup _, _, _, _, q => exact q.elim
  | .con _, _, _, _, q => exact q.elim
  | .lk _, _, _, _, q => exact q.elim
  | .ls _, _, _, _, q => exact q.elim
  | .iv .., _, _, _, q => exact q.elim
  | .id .., _, _, _, q => exact q.elim
  | .it .., _, _, _, q => exact q.elim
  | .xv .., _, _, _, q => exact q.elim
end
section
variable {QV : AV → Hs → Prop} {E : XQ} {G : Hs} {ρ : En} {D : SP}
theorem dict_id {ks : List Key} {xs : List AV} : (fDictA [.id ks xs] G).wp QV E = QV (.ref G.length) (G ++ [.dk (ks.zip xs)]) := propext Iff.rfl
theorem dict_D {n : Nat} {kvs : List (Key × AV)} (h : G[n]? = some (.dk kvs)) : (fDictA [.ref n] G).wp QV E = QV (.ref G.length) (G ++ [.dk kvs]) := by
  have e : dkR G (.ref n) = some kvs := by simp only [dkR, h]
  simp only [fDictA, e]
  rfl
theorem dclear_wp {n : Nat} {kvs : List (Key × AV)} (h : G[n]? = some (.dk kvs)) : (fDClear (.ref n) [] G).wp QV E = QV .non (G.set n (.dk [])) := by
  simp only [fDClear, h]
  rfl
theorem isD_D {n : Nat} {kvs : List (Key × AV)} (h : G[n]? = some (.dk kvs)) : isD (.ref n) G = true := by simp [isD, dkR, h]
end
end Vz
namespace Vz
open PySem L2
end Vz
namespace Vz
open PySem L2
end Vz
namespace Vz
open PySem L2
section
variable {QV : AV → Hs → Prop} {E : XQ} {G G0 : Hs} {ρ : En}
theorem FrN.setN {D : Nat} {o : AO} {G1 : Hs} (h : FrN D G0 G1) : FrN D G0 (G1.set D o) := ⟨by rw [List.length_set]; exact h.le, fun m hm hl => (List.getElem?_set_ne (Ne.symm hm)).trans (h.at_ m hm hl)⟩
end
end Vz
namespace L2
open PySem PySem.Spec PyProof.Rows
end L2
namespace Vz
open PySem L2
end Vz
namespace Vz
open PySem L2
theorem lc_at {S own : List Nat} {g : MG} {t : MB} {m : ME} {W : WX} {k : Wk} {J : It} (hS : ∀ j ∈ S, j ∈ own) {K : PySem.W.Frag} {σ : St} {H1 : Hp} {μ1 : Mu} {G1 : Hs} {ρ : En} {Q : VK} (hσ : RS K H1 μ1 ρ σ) (hG1 : RH K H1 μ1 G1) (ok : ItOk K J k H1 μ1)
    (h : Po K (rA K) W σ H1 μ1 ((lcF k.2 g t m G1.length (wipeA ρ own) k.1 (G1 ++ [.lst []])).bind fun _ G2 => .ok (.ref G1.length) G2) Q) :
    tLc (fun _ H R => R J H) (tT K WN S g) (tG K rB WN t) (tG K (rA K) WN m) own σ H1 Q := by
  have g1 : Gr H1 μ1 H1 μ1 := Gr.refl _ _
  intro D hD
  have gD : Gr H1 μ1 (upd H1 D (.lst [])) (μ1 ++ [some D]) := Gr.alloc hD
  have hGD : RH K (upd H1 D (.lst [])) (μ1 ++ [some D]) (G1 ++ [.lst []]) := hG1.alloc hD ⟨[], upd_same, .nil⟩
  have hDn : Num (μ1 ++ [some D]) G1.length D := hG1.fresh D
  have hw := (hσ.gr (g1.trans gD)).wipe own
  have h0 : Po K (rA K) W σ (upd H1 D (.lst [])) (μ1 ++ [some D]) ((lcF k.2 g t m G1.length (wipeA ρ own) k.1 (G1 ++ [.lst []])).bind fun _ G2 => .ok (.ref G1.length) G2) Q := Po.gr (g1.trans gD) h
  refine ⟨fun i mm H => mm = k.1.length - i ∧ i ≤ k.1.length ∧ ∃ μ G, Gr (upd H1 D (.lst [])) (μ1 ++ [some D]) H μ ∧ RH K H μ G ∧ Po K (rA K) W σ H μ ((lcF k.2 g t m G1.length (wipeA ρ own) (k.1.drop i) G).bind fun _ G2 => .ok (.ref G1.length) G2) Q,
    ⟨k.1.length, rfl, Nat.zero_le _, _, _, Gr.refl _ _, hGD, h0⟩, ?_⟩
  rintro i mm H2 ⟨rfl, hi2, μ2, G2, g2, hG2, h2⟩
  have hDn2 : Num μ2 (G1.length) D := hDn.gr g2
  by_cases hlt : i < k.1.length
  · rw [List.drop_eq_getElem_cons hlt] at h2
    simp only [lcF] at h2
    by_cases hgd : gdOk k.2 G2
    · rw [if_pos hgd] at h2
      obtain ⟨go, yl⟩ := (ok i H2 μ2 G2 (gD.trans g2) hG2 hgd).1 _ (List.getElem?_eq_getElem hlt)
      refine .inr ⟨go, fun H' => ∃ μ G, Gr (upd H1 D (.lst [])) (μ1 ++ [some D]) H' μ ∧ RH K H' μ G ∧ Po K (rA K) W σ H' μ ((lcF k.2 g t m G1.length (wipeA ρ own) (k.1.drop (i + 1)) G).bind fun _ G2 => .ok (.ref G1.length) G2) Q,
        fun H' z => ⟨k.1.length - (i + 1), by omega, rfl, hlt, z⟩, fun x H' y => ?_⟩
      obtain ⟨g3, hG3, rx⟩ := yl x H' y
      have g13 := g2.trans g3
      refine ⟨_, wipeA ρ own, μ2, G2, rx, hw.gr g13, hG3, ?_⟩
      have h3 := Po.gr g3 h2
      cases e3 : g k.1[i] (wipeA ρ own) G2 with
      | stuck => rw [e3] at h3; exact h3
      | exc c d G' => rw [e3] at h3; exact h3
      | ok ρ4 G4 =>
        rw [e3] at h3
        simp only at h3
        intro H4 μ4 σ4 g4 hG4 hσ4 l4 j4
        have h4 := Po.gr g4 h3
        have g14 := g13.trans g4
        refine ⟨(wipe_eq hS l4 j4).trans wipe_wipe, ρ4, μ4, G4, hσ4, hG4, ?_⟩
        cases e4 : t ρ4 G4 with
        | stuck => rw [e4] at h4; exact h4
        | exc c d G' => rw [e4] at h4; exact h4.elim
        | ok b G5 =>
          rw [e4] at h4
          intro H5 μ5 b' g5 hG5 eb
          have eb : b = b' := eb
          subst eb
          have h5 := Po.gr g5 h4
          have g15 := g14.trans g5
          cases b with
          | false => exact iteF ⟨μ5, G5, g15, hG5, h5⟩
          | true =>
            refine iteT ⟨ρ4, μ5, G5, hσ4.gr g5, hG5, ?_⟩
            simp only at h5
            cases e6 : m ρ4 G5 with
            | stuck => rw [e6] at h5; exact h5
            | exc c d G' => rw [e6] at h5; exact h5.elim
            | ok y G6 =>
              rw [e6] at h5
              simp only at h5
              intro H6 μ6 y' g6 hG6 ry
              have h6 := Po.gr g6 h5
              have g16 := g15.trans g6
              have hDn6 : Num μ6 (G1.length) D := hDn.gr g16
              obtain ⟨o, ho, ro⟩ := hG6.obj hDn6
              rw [ho] at h6
              cases o with
              | lst acc =>
                simp only at h6
                obtain ⟨vs, hv, rs⟩ := ro
                by_cases hz : acc.length < szl
                · rw [if_pos hz] at h6
                  have gp : Gr H6 μ6 (upd H6 D (.lst (vs ++ [y']))) μ6 := Gr.put hG6 hDn6 ho
                  refine ⟨vs, hv, by rw [← rs.length]; exact hz, μ6, _, g16.trans gp, hG6.put (o := .lst (acc ++ [y])) hDn6 ho ⟨_, upd_same, (rs.app (.cons ry .nil)).gr gp⟩, Po.gr gp h6⟩
                · rw [if_neg hz] at h6
                  exact h6.elim
              | _ => exact h6.elim
    · rw [if_neg hgd] at h2
      exact h2.elim
  · have ei : i = k.1.length := by omega
    rw [List.drop_eq_nil_of_le (by omega)] at h2
    simp only [lcF] at h2
    by_cases hgd : gdOk k.2 G2
    · rw [if_pos hgd] at h2
      exact .inl ⟨(ok i H2 μ2 G2 (gD.trans g2) hG2 hgd).2 (by omega), Po.now (v := AV.ref G1.length) h2 hG2 (.ref hDn2)⟩
    · rw [if_neg hgd] at h2
      exact h2.elim
def scal : AV → Bool
  | .non => true
  | .bl _ => true
  | .int _ => true
  | .str _ => true
  | _ => false
def flat1 : AV → Bool
  | .tup xs => xs.all scal
  | v => scal v
def blank (v : AV) : AV := if scal v = true then v else .ref 0
def blankE (ρ : En) : En := ρ.map fun o => match o with
  | some v => if scal v = true then some v else none
  | none => none
section
variable {K : PySem.W.Frag} {H H' : Hp} {μ μ' : Mu}
theorem scal_ra {v : AV} {x : V} (h : RA K H μ v x) (hs : scal v = true) : RA K H' μ' v x := by
  cases h <;> first | exact .non | exact .bl _ | exact .int _ | exact .str _ | cases hs
theorem scals_ra : ∀ {xs : List AV} {vs : List V}, RAs K H μ xs vs → xs.all scal = true → RAs K H' μ' xs vs
  | _, _, .nil, _ => .nil
  | _, _, .cons r rs, h => by
    rw [List.all_cons, Bool.and_eq_true] at h
    exact .cons (scal_ra r h.1) (scals_ra rs h.2)
theorem flat1_ra {v : AV} {x : V} (ht : ∀ b vs, H b = some (.tup vs) → H' b = some (.tup vs)) (h : RA K H μ v x) (hs : flat1 v = true) : RA K H' μ' v x := by
  cases h with
  | tup h rs => exact .tup (ht _ _ h) (scals_ra rs hs)
  | non => exact .non
  | bl b => exact .bl b
  | int i => exact .int i
  | str s => exact .str s
  | _ => cases hs
theorem flat1s_ra (ht : ∀ b vs, H b = some (.tup vs) → H' b = some (.tup vs)) : ∀ {xs : List AV} {vs : List V}, RAs K H μ xs vs → xs.all flat1 = true → RAs K H' μ' xs vs
  | _, _, .nil, _ => .nil
  | _, _, .cons r rs, h => by
    rw [List.all_cons, Bool.and_eq_true] at h
    exact .cons (flat1_ra ht r h.1) (flat1s_ra ht rs h.2)
theorem blank_ra {v : AV} {x : V} (h : RA K H μ v x) : RA K H' [none] (blank v) x := by
  unfold blank
  by_cases hs : scal v = true
  · rw [if_pos hs]; exact scal_ra h hs
  · rw [if_neg hs]
    have num : ∀ a, Num [none] 0 a := fun a => ⟨Nat.zero_lt_one, fun a' e => by simp at e⟩
    cases h <;> first | exact .ref (num _) | exact absurd rfl hs
theorem blankE_rs {ρ : En} {σ : St} (h : RS K H μ ρ σ) : RS K H' [none] (blankE ρ) σ := by
  refine ⟨by unfold blankE; rw [List.length_map]; exact h.len, fun i v e => ?_⟩
  unfold blankE at e
  rw [List.getElem?_map] at e
  obtain ⟨o, e1, e2⟩ := Option.map_eq_some_iff.mp e
  cases o with
  | none => cases e2
  | some w =>
    simp only at e2
    by_cases hs : scal w = true
    · rw [if_pos hs] at e2
      cases e2
      obtain ⟨x, h1, h2⟩ := h.at_ i v e1
      exact ⟨x, h1, scal_ra h2 hs⟩
    · rw [if_neg hs] at e2; cases e2
theorem rh0 : RH K H [none] [AO.gone] where
  len := rfl
  nd := fun n m a e => by
    cases n with
    | zero => cases e
    | succ n => cases e
  of := fun n a o e => by
    cases n with
    | zero => cases e
    | succ n => cases e
  no := fun n e => by
    cases n with
    | zero => rfl
    | succ n => cases e
def itemsA (kvs : List (Key × AV)) : List AV := kvs.map fun kv => .tup [keyV kv.1, blank kv.2]
theorem key_ra {k : Key} : RA K H μ (keyV k) (kV k) := by cases k <;> first | exact .int _ | exact .str _
theorem pairs_at : ∀ {kvs : List (Key × AV)} {ws : List (Key × V)} {i : Nat} {v : AV}, RF K H μ kvs ws → (itemsA kvs)[i]? = some v → ∃ k x u, ws[i]? = some (k, x) ∧ v = .tup [keyV k, blank u] ∧ RA K H μ u x
  | [], _, i, v, _, e => by cases e
  | (k, u) :: kvs, [], i, v, h, e => by cases h.1
  | (k, u) :: kvs, (k', x) :: ws, i, v, h, e => by
    have h1 := h.1
    have h2 := h.2
    simp only [List.map_cons, List.cons.injEq] at h1
    rw [List.map_cons, List.map_cons] at h2
    cases h2 with
    | cons r rs =>
      cases i with
      | zero =>
        cases e
        refine ⟨k', x, u, rfl, ?_, r⟩
        rw [← h1.1]
      | succ i => exact pairs_at (kvs := kvs) (ws := ws) ⟨h1.2, rs⟩ e
theorem itemsA_len {kvs : List (Key × AV)} {ws : List (Key × V)} (h : RF K H μ kvs ws) : (itemsA kvs).length = ws.length := by
  have := congrArg List.length h.1
  simpa [itemsA] using this
theorem itOk_items {kvs : List (Key × AV)} {ws : List (Key × V)} {a : Addr} {od : Obj} {H0 : Hp} (h : RF K H0 μ kvs ws) (ha : H a = some (.frz od (.dK ws))) : ItOk K (Iti a od ws) (itemsA kvs, none) H [none] := fun i H1 μ1 G1 g hG _ => by
  have hl := itemsA_len h
  have ha1 := g.frz _ _ _ ha
  refine ⟨fun v hv => ⟨⟨ha1, ?_⟩, fun x H2 y => ?_⟩, fun hi => ⟨ha1, by rw [← hl]; exact hi⟩⟩
  · have := (List.getElem?_eq_some_iff.mp hv).1
    simp only at this
    omega
  · obtain ⟨k, u, w, e1, rfl, r⟩ := pairs_at h hv
    obtain ⟨T, k', u', e2, rfl, hT, rfl⟩ := y
    rw [e1] at e2
    cases e2
    have gn : Gr H1 μ1 (upd H1 T (.tup [kV k, u])) μ1 := Gr.new hT
    exact ⟨gn, hG.new hT, .tup upd_same (.cons key_ra (.cons ((blank_ra (H' := H) r).gr (g.trans gn)) .nil))⟩
end
/-- what comes out of the walk over the items of the dict in the name i -/
noncomputable def itF (i : Nat) (g : MG) (t : MB) (m : ME) (own : List Nat) (ρ : En) (G : Hs) : Option (List AV) := match ρ[i]? with
  | some (some v) => match dkR G v with
    | some kvs => match lcF none g t m 1 (wipeA (blankE ρ) own) (itemsA kvs) [.gone, .lst []] with
      | .ok () G2 => match (G2[1]? : Option AO) with
        | some (AO.lst vals) => if vals.all flat1 = true then some vals else none
        | _ => none
      | _ => none
    | none => none
  | _ => none
noncomputable def mItN (i : Nat) (g : MG) (t : MB) (m : ME) (own : List Nat) : ME := fun ρ G => match itF i g t m own ρ G with
  | some vals => .ok (.ref G.length) (G ++ [.lst vals])
  | none => .stuck
noncomputable def mItI (i : Nat) (g : MG) (t : MB) (m : ME) (own : List Nat) : ME := fun ρ G => match itF i g t m own ρ G with
  | some vals => .ok (.ls vals) G
  | none => .stuck
section
variable {X : Cx} {W : WX} {e elt : Expr} {tg : Expr} {elts : List Expr} {kk i : Nat} {tpos apos cpos pos : Pos} {S : List Nat} {ifs : List Expr} {scope : Scope} {own : List (Str × Nat)} {g : MG} {t : MB} {m : ME}
/-- the walk by itself -/
theorem it_go (hS : ∀ j ∈ S, j ∈ own.map (·.2)) {K : PySem.W.Frag} {σ : St} {H : Hp} {μ : Mu} {ρ : En} {G : Hs} {vals : List AV} {Q : VK} (hσ : RS K H μ ρ σ) (hG : RH K H μ G) (e : itF i g t m (own.map (·.2)) ρ G = some vals)
    (q : ∀ H2 D vs, H D = none → H2 D = some (.lst vs) → (∀ b u, H b = some u → H2 b = some u) → RAs K H2 μ vals vs → vals.all flat1 = true → Q (.ref D) H2) :
    tLockE (tLc (iItems (tVar i)) (tT K WN S g) (tG K rB WN t) (tG K (rA K) WN m) (own.map (·.2))) σ H Q := by
  unfold itF at e
  split at e
  case h_2 => cases e
  rename_i v e1
  split at e
  case h_2 => cases e
  rename_i kvs e2
  split at e
  case h_2 => cases e
  rename_i G2 e3
  split at e
  case h_2 => cases e
  rename_i vals' e4
  split at e
  case isFalse => cases e
  rename_i hf
  cases e
  obtain ⟨x, s1, r⟩ := hσ.at_ i v e1
  obtain ⟨a, ws, rfl, ha, rf⟩ := dkR_ok hG r e2
  refine ⟨a, .dK ws, ha, True.intro, fun od => ?_⟩
  refine ⟨.ref a, s1, a, od, ws, rfl, upd_same, ?_⟩
  have ha1 : (upd H a (.frz od (.dK ws))) a = some (.frz od (.dK ws)) := upd_same
  show tLc (fun _ H R => R (Iti a od ws) H) (tT K WN S g) (tG K rB WN t) (tG K (rA K) WN m) (own.map (·.2)) σ (upd H a (.frz od (.dK ws))) (fun v H' => H' a = some (.frz od (.dK ws)) ∧ Q v (upd H' a (.dK ws)))
  refine lc_at (k := (itemsA kvs, none)) (W := WN) (G1 := [AO.gone]) (μ1 := [none]) (ρ := blankE ρ) hS (blankE_rs hσ) rh0 (itOk_items rf ha1) ?_
  show Po K (rA K) WN σ _ _ ((lcF none g t m 1 (wipeA (blankE ρ) (own.map (·.2))) (itemsA kvs) [.gone, .lst []]).bind fun _ G2 => .ok (.ref 1) G2) _
  rw [e3, R.bind_ok]
  intro H' μ' y gr hG2 ry
  cases ry with
  | ref hn =>
    rename_i D
    have hD := hG2.lv hn e4 (by intro h; cases h)
    have r := hG2.at_ _ _ _ hn e4
    obtain ⟨vs, h1, h2⟩ := r
    have ha2 := gr.frz _ _ _ ha1
    have hDn := gr.fre 1 D (Nat.le_refl _) hD
    have hDa : D ≠ a := fun z => by subst z; rw [upd_same] at hDn; cases hDn
    have hD0 : H D = none := by rw [upd_ne hDa] at hDn; exact hDn
    have ht : ∀ b ws', H' b = some (.tup ws') → (upd H' a (.dK ws)) b = some (.tup ws') := fun b ws' hb => by
      have : b ≠ a := fun z => by subst z; rw [ha2] at hb; cases hb
      rw [upd_ne this]; exact hb
    refine ⟨ha2, q (upd H' a (.dK ws)) D vs hD0 (by rw [upd_ne hDa]; exact h1) (fun b u hb => ?_) (flat1s_ra ht h2 hf) hf⟩
    by_cases z : b = a
    · subst z
      rw [ha] at hb
      cases hb
      exact upd_same
    · rw [upd_ne z]
      exact gr.keep b u (by rw [upd_ne z]; exact hb) (by simp)
theorem keepAll {K : PySem.W.Frag} {H H2 : Hp} {μ : Mu} {G : Hs} (hG : RH K H μ G) (k : ∀ b u, H b = some u → H2 b = some u) : Gr H μ H2 μ ∧ RH K H2 μ G := by
  have gr : Gr H μ H2 μ := ⟨Nat.le_refl _, fun _ _ _ h => h, fun n a h e => (by rw [List.getElem?_eq_none h] at e; cases e), fun a u h _ => k a u h, fun a vs h => k _ _ h, fun a o u h => k _ _ h, fun a h => by
    cases e : H a with
    | none => rfl
    | some u => rw [k a u e] at h; cases h⟩
  refine ⟨gr, hG.len, hG.nd, fun n a o e1 e2 => ?_, hG.no⟩
  obtain ⟨l, r⟩ := hG.of n a o e1 e2
  obtain ⟨u, hu, _⟩ := r.there l
  exact ⟨l, r.gr gr ((k a u hu).trans hu.symm)⟩
theorem se_lcItI {X : Cx} {W : WX} {e elt : Expr} {elts : List Expr} {kk i : Nat} {tpos apos cpos pos : Pos} {S : List Nat} {ifs : List Expr} {scope : Scope} {own : List (Str × Nat)} {g : MG} {t : MB} {m : ME} (hc : X.calm = true) (hN : X.N.Nodup) (hd : PE X e (tVar i)) (ok : BlkOk X.N X.env.scope scope own) (hS : ∀ j ∈ S, j ∈ own.map (·.2))
    (hg : ∀ (s : Shared) (H : Hp) (C : Addr) (cl : List (Str × Addr)) (fp : List Addr), SG (X.blk s H scope (compEnvC scope cl C X.env) fp) WN S (.Tuple elts kk tpos) g)
    (ht : ∀ (s : Shared) (H : Hp) (C : Addr) (cl : List (Str × Addr)) (fp : List Addr), STs (X.blk s H scope (compEnvC scope cl C X.env) fp) WN ifs t)
    (he : ∀ (s : Shared) (H : Hp) (C : Addr) (cl : List (Str × Addr)) (fp : List Addr), SE (X.blk s H scope (compEnvC scope cl C X.env) fp) WN elt m) (hs : ∀ x, foldedSetIterable (.Call (.Attribute e "items" apos) [] [] cpos) X.env x = pure x := by intro _; rfl)
    (hbase : attributeBase e "items" X.env (eval e X.env) = eval e X.env := by rfl) (hline : (apos.endLine == cpos.line) = true := by rfl) :
    SE X W (.ListComp elt [⟨.Tuple elts kk tpos, .Call (.Attribute e "items" apos) [] [] cpos, ifs, 0⟩] scope pos) (mItI i g t m (own.map (·.2))) := by
  refine PE.imp (pe_lock (pe_lc (g := tT X.K WN S g) (tt := tG X.K rB WN t) (te := tG X.K (rA X.K) WN m) hc hN (pi_items hd hbase hline) ok hg ht he hs)) fun σ H Q ⟨ρ, μ, G, hσ, hG, h⟩ => ?_
  unfold mItI at h
  cases e1 : itF i g t m (own.map (·.2)) ρ G with
  | none => rw [e1] at h; exact h.elim
  | some vals =>
    rw [e1] at h
    refine it_go hS hσ hG e1 fun H2 D vs hD0 hD2 kp rs hf => ?_
    obtain ⟨gr, hG2⟩ := keepAll hG kp
    exact h H2 μ (.ref D) gr hG2 (.ls ⟨hD2, hG.nmem hD0⟩ (flat1s_ra (fun b ws hb => hb) rs hf))
/-- what is known when the walk's list is there -/
theorem itN_end {K : PySem.W.Frag} {H H2 : Hp} {μ : Mu} {G : Hs} {D : Addr} {vs : List V} {vals : List AV} (hG : RH K H μ G) (hD0 : H D = none) (hD2 : H2 D = some (.lst vs)) (kp : ∀ b u, H b = some u → H2 b = some u) (rs : RAs K H2 μ vals vs) (hf : vals.all flat1 = true) :
    Gr H μ H2 (μ ++ [some D]) ∧ RH K H2 (μ ++ [some D]) (G ++ [.lst vals]) ∧ RA K H2 (μ ++ [some D]) (.ref G.length) (.ref D) := by
  have eH : upd (fun b => if b = D then none else H2 b) D (.lst vs) = H2 := by
    funext b
    by_cases z : b = D
    · subst z; rw [upd_same, hD2]
    · rw [upd_ne z]; exact if_neg z
  have k3 : ∀ b u, H b = some u → (fun b => if b = D then none else H2 b) b = some u := fun b u hb => by
    have : b ≠ D := fun z => by subst z; rw [hD0] at hb; cases hb
    show (if b = D then none else H2 b) = some u
    rw [if_neg this]
    exact kp b u hb
  obtain ⟨gr, hG3⟩ := keepAll hG k3
  have hD3 : (fun b => if b = D then none else H2 b) D = none := if_pos rfl
  have gA := gr.trans (Gr.alloc (ho := .lst vs) hD3)
  have hA := hG3.alloc (ho := .lst vs) (o := .lst vals) hD3 ⟨vs, upd_same, flat1s_ra (fun b ws hb => by rw [eH]; exact hb) rs hf⟩
  rw [eH] at gA hA
  exact ⟨gA, hA, .ref (hG.fresh D)⟩
theorem ss_setLcItN {X : Cx} {W : WX} {y : Str} {py spos : Pos} {j : Nat} {e elt : Expr} {elts : List Expr} {kk i : Nat} {tpos apos cpos pos : Pos} {S : List Nat} {ifs : List Expr} {scope : Scope} {own : List (Str × Nat)} {g : MG} {t : MB} {m : ME} (hc : X.calm = true) (hN : X.N.Nodup) (hy : X.N[j]? = some y) (hyl : X.env.scope.names.lookup y = some .local)
    (hsw : swapsWith (.ListComp elt [⟨.Tuple elts kk tpos, .Call (.Attribute e "items" apos) [] [] cpos, ifs, 0⟩] scope pos) (some (.Name y py)) spos.line X.env = pure true) (hd : PE X e (tVar i)) (ok : BlkOk X.N X.env.scope scope own) (hS : ∀ j ∈ S, j ∈ own.map (·.2))
    (hg : ∀ (s : Shared) (H : Hp) (C : Addr) (cl : List (Str × Addr)) (fp : List Addr), SG (X.blk s H scope (compEnvC scope cl C X.env) fp) WN S (.Tuple elts kk tpos) g)
    (ht : ∀ (s : Shared) (H : Hp) (C : Addr) (cl : List (Str × Addr)) (fp : List Addr), STs (X.blk s H scope (compEnvC scope cl C X.env) fp) WN ifs t)
    (he : ∀ (s : Shared) (H : Hp) (C : Addr) (cl : List (Str × Addr)) (fp : List Addr), SE (X.blk s H scope (compEnvC scope cl C X.env) fp) WN elt m) (hs : ∀ x, foldedSetIterable (.Call (.Attribute e "items" apos) [] [] cpos) X.env x = pure x := by intro _; rfl)
    (hbase : attributeBase e "items" X.env (eval e X.env) = eval e X.env := by rfl) (hline : (apos.endLine == cpos.line) = true := by rfl) :
    SS X W (.Assign [.Name y py] (.ListComp elt [⟨.Tuple elts kk tpos, .Call (.Attribute e "items" apos) [] [] cpos, ifs, 0⟩] scope pos) spos) (mAsg (mItN i g t m (own.map (·.2))) (gNm j)) := by
  refine PS.imp (ps_lock (ps_setLc (g := tT X.K WN S g) (tt := tG X.K rB WN t) (te := tG X.K (rA X.K) WN m) hc hN hy hyl hsw (pi_items hd hbase hline) ok hg ht he hs)) fun D σ H ⟨ρ, μ, G, hσ, hG, h⟩ => ?_
  unfold mAsg mItN at h
  cases e1 : itF i g t m (own.map (·.2)) ρ G with
  | none => rw [e1] at h; exact h.elim
  | some vals =>
    rw [e1] at h
    obtain ⟨d, u, h1, h2, h3⟩ := it_go (Q := fun x H' => D.nx (σ.set j (some x)) H') hS hσ hG e1 fun H2 D' vs hD0 hD2 kp rs hf => by
      obtain ⟨gA, hA, rA'⟩ := itN_end hG hD0 hD2 kp rs hf
      exact h H2 _ _ gA hA ((hσ.gr gA).set rA')
    exact ⟨d, u, h1, h2, fun od => h3 od⟩
end
section
variable {QV : AV → Hs → Prop} {E : XQ} {ρ : En} {G : Hs}
theorem lcF_map {g : MG} {t : MB} {m : ME} {D : Nat} (y : AV → AV) : ∀ (us acc : List AV) (G : Hs), G[D]? = some (.lst acc) → acc.length + us.length ≤ szl → (∀ u ∈ us, ∀ G, ∃ ρ2, g u ρ G = .ok ρ2 G ∧ t ρ2 G = .ok true G ∧ m ρ2 G = .ok (y u) G) →
    ∃ G', lcF none g t m D ρ us G = .ok () G' ∧ G'[D]? = some (.lst (acc ++ us.map y))
  | [], acc, G, hD, hl, hb => ⟨G, by unfold lcF; exact if_pos True.intro, by rw [List.map_nil, List.append_nil]; exact hD⟩
  | u :: us, acc, G, hD, hl, hb => by
    obtain ⟨ρ2, e1, e2, e3⟩ := hb u (List.mem_cons_self ..) G
    simp only [List.length_cons] at hl
    have hD2 : (G.set D (.lst (acc ++ [y u])))[D]? = some (.lst (acc ++ [y u])) := List.getElem?_set_self (List.getElem?_eq_some_iff.mp hD).1
    obtain ⟨G', e4, e5⟩ := lcF_map y us (acc ++ [y u]) (G.set D (.lst (acc ++ [y u]))) hD2 (by rw [List.length_append]; simp; omega) fun v hv => hb v (List.mem_cons_of_mem _ hv)
    refine ⟨G', ?_, by rw [List.map_cons, show acc ++ y u :: us.map y = acc ++ [y u] ++ us.map y by simp]; exact e5⟩
    unfold lcF
    rw [if_pos (show gdOk none G from True.intro), e1]
    simp only [e2, e3, hD]
    rw [if_pos (by omega)]
    exact e4
theorem itF_eq {i : Nat} {g : MG} {t : MB} {m : ME} {own : List Nat} {v : AV} {kvs : List (Key × AV)} (hv : ρ[i]? = some (some v)) (hk : dkR G v = some kvs) (y : AV → AV) (hl : kvs.length ≤ szl)
    (hb : ∀ u ∈ itemsA kvs, ∀ G, ∃ ρ2, g u (wipeA (blankE ρ) own) G = .ok ρ2 G ∧ t ρ2 G = .ok true G ∧ m ρ2 G = .ok (y u) G) (hf : ((itemsA kvs).map y).all flat1 = true) : itF i g t m own ρ G = some ((itemsA kvs).map y) := by
  obtain ⟨G', e1, e2⟩ := lcF_map (ρ := wipeA (blankE ρ) own) (D := 1) y (itemsA kvs) [] [.gone, .lst []] rfl (by simpa [itemsA] using hl) hb
  unfold itF
  simp only [hv, hk, e1, e2]
  rw [List.nil_append, if_pos hf]
theorem itN_wp {i : Nat} {g : MG} {t : MB} {m : ME} {own : List Nat} {v : AV} {kvs : List (Key × AV)} (hv : ρ[i]? = some (some v)) (hk : dkR G v = some kvs) (y : AV → AV) (hl : kvs.length ≤ szl)
    (hb : ∀ u ∈ itemsA kvs, ∀ G, ∃ ρ2, g u (wipeA (blankE ρ) own) G = .ok ρ2 G ∧ t ρ2 G = .ok true G ∧ m ρ2 G = .ok (y u) G) (hf : ((itemsA kvs).map y).all flat1 = true) :
    (mItN i g t m own ρ G).wp QV E = QV (.ref G.length) (G ++ [.lst ((itemsA kvs).map y)]) := by
  unfold mItN
  rw [itF_eq hv hk y hl hb hf]
  rfl
theorem itI_wp {i : Nat} {g : MG} {t : MB} {m : ME} {own : List Nat} {v : AV} {kvs : List (Key × AV)} (hv : ρ[i]? = some (some v)) (hk : dkR G v = some kvs) (y : AV → AV) (hl : kvs.length ≤ szl)
    (hb : ∀ u ∈ itemsA kvs, ∀ G, ∃ ρ2, g u (wipeA (blankE ρ) own) G = .ok ρ2 G ∧ t ρ2 G = .ok true G ∧ m ρ2 G = .ok (y u) G) (hf : ((itemsA kvs).map y).all flat1 = true) :
    (mItI i g t m own ρ G).wp QV E = QV (.ls ((itemsA kvs).map y)) G := by
  unfold mItI
  rw [itF_eq hv hk y hl hb hf]
  rfl
end
end Vz
namespace Vz
open PySem L2
mutual
def avd : AV → PyData
  | .bl b => .bool b
  | .int i => .int i
  | .str s => .str s
  | .tup xs => .tuple (avds xs)
  | .con xs => .tuple (avds xs)
  | .lk xs => .list (avds xs)
  | .ls xs => .list (avds xs)
  | _ => .none
def avds : List AV → List PyData
  | [] => []
  | x :: xs => avd x :: avds xs
end
def niceS (s : Str) : Bool := PyData.strOk s && s.cps.toList.all fun c => decide (c < 16 ^ 8)
mutual
def niceV : AV → Nat → Bool
  | .non, _ => true
  | .bl _, _ => true
  | .int i, _ => decide (i.natAbs < 10 ^ 40)
  | .str s, _ => niceS s
  | .tup xs, k => match k with
    | 0 => false
    | k + 1 => niceVs xs k
  | .con xs, k => match k with
    | 0 => false
    | k + 1 => niceVs xs k
  | .lk xs, k => match k with
    | 0 => false
    | k + 1 => niceVs xs k
  | .ls xs, k => match k with
    | 0 => false
    | k + 1 => niceVs xs k
  | _, _ => false
def niceVs : List AV → Nat → Bool
  | [], _ => true
  | x :: xs, k => niceV x k && niceVs xs k
end
theorem niceVs_all {k : Nat} : ∀ {xs : List AV}, (∀ v ∈ xs, niceV v k = true) → niceVs xs k = true
  | [], _ => rfl
  | x :: xs, h => by
    rw [niceVs, h x (List.mem_cons_self ..), niceVs_all fun v hv => h v (List.mem_cons_of_mem _ hv)]
    rfl
theorem avds_len : ∀ xs : List AV, (avds xs).length = xs.length
  | [] => rfl
  | x :: xs => by rw [avds, List.length_cons, List.length_cons, avds_len xs]
/-- what niceness gives -/
structure NiceD (d : PyData) (k : Nat) : Prop where
  sh : PyData.leavesShort 50 d = true
  sw : PyData.showable d = true
  nd : d.hasDict = false
  dp : d.depth ≤ k
  ly : d.canLay0 = true
structure NiceDs (d : List PyData) (k : Nat) : Prop where
  sh : PyData.leavesShortAll 50 d = true
  sw : PyData.showableAll d = true
  nd : PyData.hasDictAll d = false
  dp : PyData.depthAll d ≤ k
  ly : PyData.canLayAll0 d = true
theorem NiceDs.tup {ds : List PyData} {k : Nat} (h : NiceDs ds k) : NiceD (.tuple ds) (k + 1) := ⟨by rw [PyData.leavesShort]; exact h.sh, by rw [PyData.showable]; exact h.sw, by rw [PyData.hasDict]; exact h.nd, by rw [PyData.depth]; have := h.dp; omega, by rw [PyData.canLay0]; exact h.ly⟩
theorem NiceDs.lst {ds : List PyData} {k : Nat} (h : NiceDs ds k) : NiceD (.list ds) (k + 1) := ⟨by rw [PyData.leavesShort]; exact h.sh, by rw [PyData.showable]; exact h.sw, by rw [PyData.hasDict]; exact h.nd, by rw [PyData.depth]; have := h.dp; omega, by rw [PyData.canLay0]; exact h.ly⟩
theorem nice_int {i : Int} (h : i.natAbs < 10 ^ 40) (k : Nat) : NiceD (.int i) k := by
  refine ⟨?_, ?_, rfl, Nat.zero_le _, rfl⟩
  · rw [PyData.leavesShort]
    refine decide_eq_true ?_
    show (Str.ofString (toString i)).length ≤ 50
    rw [ofString_length]
    have := PySem.int_text_length_le10 (k := 40) (by decide) h
    omega
  · show decide (i.natAbs.log2 < 1920) = true
    refine decide_eq_true ?_
    by_cases z : i.natAbs = 0
    · rw [z]; decide
    · have h2 : i.natAbs < 2 ^ 140 := Nat.lt_of_lt_of_le h (by decide)
      exact Nat.lt_of_lt_of_le ((Nat.log2_lt z).mpr h2) (by decide)
mutual
theorem avd_nice : ∀ (v : AV) (k : Nat), niceV v k = true → NiceD (avd v) k
  | .non, k, _ => ⟨rfl, rfl, rfl, Nat.zero_le _, rfl⟩
  | .bl b, k, _ => ⟨rfl, rfl, rfl, Nat.zero_le _, rfl⟩
  | .int i, k, h => nice_int (by rw [niceV] at h; exact of_decide_eq_true h) k
  | .str s, k, h => by
    rw [niceV, niceS, Bool.and_eq_true] at h
    exact ⟨by rw [avd, PyData.leavesShort]; exact h.2, rfl, rfl, Nat.zero_le _, by rw [avd, PyData.canLay0]; exact h.1⟩
  | .tup xs, 0, h => by simp [niceV] at h
  | .tup xs, k + 1, h => by rw [avd]; exact (avds_nice xs k (by rw [niceV] at h; exact h)).tup
  | .con xs, 0, h => by simp [niceV] at h
  | .con xs, k + 1, h => by rw [avd]; exact (avds_nice xs k (by rw [niceV] at h; exact h)).tup
  | .lk xs, 0, h => by simp [niceV] at h
  | .lk xs, k + 1, h => by rw [avd]; exact (avds_nice xs k (by rw [niceV] at h; exact h)).lst
  | .ls xs, 0, h => by simp [niceV] at h
  | .ls xs, k + 1, h => by rw [avd]; exact (avds_nice xs k (by rw [niceV] at h; exact h)).lst
  | .iv _ _ _, _, h => by simp [niceV] at h
  | .id _ _, _, h => by simp [niceV] at h
  | .it _ _, _, h => by simp [niceV] at h
  | .xv _ _ _, _, h => by simp [niceV] at h
  | .ref _, _, h => by simp [niceV] at h
theorem avds_nice : ∀ (xs : List AV) (k : Nat), niceVs xs k = true → NiceDs (avds xs) k
  | [], _, _ => ⟨rfl, rfl, rfl, Nat.zero_le _, rfl⟩
  | x :: xs, k, h => by
    rw [niceVs, Bool.and_eq_true] at h
    have h1 := avd_nice x k h.1
    have h2 := avds_nice xs k h.2
    have hd : PyData.depthAll (avds (x :: xs)) = max (avd x).depth (PyData.depthAll (avds xs)) := by simp [avds, PyData.depthAll]
    refine ⟨?_, ?_, ?_, ?_, ?_⟩
    · rw [avds, PyData.leavesShortAll, h1.sh, h2.sh]; rfl
    · rw [avds, PyData.showableAll, h1.sw, h2.sw]; rfl
    · rw [avds, PyData.hasDictAll, h1.nd, h2.nd]; rfl
    · rw [hd]; have := h1.dp; have := h2.dp; omega
    · rw [avds, PyData.canLayAll0, h1.ly, h2.ly]; rfl
end
mutual
theorem dat_nice : ∀ (v : AV) (k : Nat), niceV v k = true → ∀ G n, dat (n + k + 1) G v = some (avd v)
  | .non, k, _, G, n => rfl
  | .bl b, k, _, G, n => rfl
  | .int i, k, h, G, n => rfl
  | .str s, k, h, G, n => rfl
  | .tup xs, 0, h, _, _ => by simp [niceV] at h
  | .tup xs, k + 1, h, G, n => by rw [dat, show n + (k + 1) = n + k + 1 by omega, dats_nice xs k (by rw [niceV] at h; exact h) G n, avd]
  | .con xs, 0, h, _, _ => by simp [niceV] at h
  | .con xs, k + 1, h, G, n => by rw [dat, show n + (k + 1) = n + k + 1 by omega, dats_nice xs k (by rw [niceV] at h; exact h) G n, avd]
  | .lk xs, 0, h, _, _ => by simp [niceV] at h
  | .lk xs, k + 1, h, G, n => by rw [dat, show n + (k + 1) = n + k + 1 by omega, dats_nice xs k (by rw [niceV] at h; exact h) G n, avd]
  | .ls xs, 0, h, _, _ => by simp [niceV] at h
  | .ls xs, k + 1, h, G, n => by rw [dat, show n + (k + 1) = n + k + 1 by omega, dats_nice xs k (by rw [niceV] at h; exact h) G n, avd]
  | .iv _ _ _, _, h, _, _ => by simp [niceV] at h
  | .id _ _, _, h, _, _ => by simp [niceV] at h
  | .it _ _, _, h, _, _ => by simp [niceV] at h
  | .xv _ _ _, _, h, _, _ => by simp [niceV] at h
  | .ref _, _, h, _, _ => by simp [niceV] at h
theorem dats_nice : ∀ (xs : List AV) (k : Nat), niceVs xs k = true → ∀ G n, allS (xs.map (dat (n + k + 1) G)) = some (avds xs)
  | [], _, _, _, _ => rfl
  | x :: xs, k, h, G, n => by
    rw [niceVs, Bool.and_eq_true] at h
    have h1 := dat_nice x k h.1 G n
    have h2 := dats_nice xs k h.2 G n
    rw [List.map_cons, h1, avds]
    simp only [allS, h2]
end
theorem dat12 {v : AV} (h : niceV v 11 = true) (G : Hs) : dat 12 G v = some (avd v) := dat_nice v 11 h G 0
/-- seen as the same data -/
def Sm (G : Hs) (v w : AV) : Prop := ∀ n, dat n G v = dat n G w
inductive Sms (G : Hs) : List AV → List AV → Prop
  | nil : Sms G [] []
  | cons {v w : AV} {vs ws : List AV} (h : Sm G v w) (r : Sms G vs ws) : Sms G (v :: vs) (w :: ws)
section
variable {QV : AV → Hs → Prop} {E : XQ} {G : Hs} {k : Nat} {v w u x : AV} {vs ws : List AV}
theorem sm_refl : Sm G v v := fun _ => rfl
theorem Sm.symm (h : Sm G v w) : Sm G w v := fun n => (h n).symm
theorem Sm.trans (h : Sm G v w) (h2 : Sm G w u) : Sm G v u := fun n => (h n).trans (h2 n)
theorem Sms.map (h : Sms G vs ws) (n : Nat) : vs.map (dat n G) = ws.map (dat n G) := by
  induction h with
  | nil => rfl
  | cons h r ih => rw [List.map_cons, List.map_cons, h n, ih]
theorem bulkAll_le {c : Nat} : ∀ {ds : List PyData}, (∀ d ∈ ds, PyData.bulk d ≤ c) → PyData.bulkAll ds ≤ ds.length * (c + 1)
  | [], _ => Nat.zero_le _
  | d :: ds, h => by
    have h1 := h d (List.mem_cons_self ..)
    have h2 := bulkAll_le (ds := ds) fun x hx => h x (List.mem_cons_of_mem _ hx)
    rw [PyData.bulkAll, List.length_cons, Nat.succ_mul]
    omega
theorem avds_mem : ∀ {xs : List AV} {d : PyData}, d ∈ avds xs → ∃ v ∈ xs, d = avd v
  | x :: xs, d, h => by
    rw [avds] at h
    rcases List.mem_cons.mp h with h | h
    · exact ⟨x, List.mem_cons_self .., h⟩
    · obtain ⟨v, hv, e⟩ := avds_mem h
      exact ⟨v, List.mem_cons_of_mem _ hv, e⟩
theorem bulk_avds {c : Nat} {xs : List AV} (h : ∀ v ∈ xs, (avd v).bulk ≤ c) : PyData.bulkAll (avds xs) ≤ xs.length * (c + 1) := by
  rw [← avds_len xs]
  refine bulkAll_le fun d hd => ?_
  obtain ⟨v, hv, rfl⟩ := avds_mem hd
  exact h v hv
theorem eqF_sm (hv : Sm G v x) (hw : Sm G w u) (hx : niceV x 11 = true) (hu : niceV u 11 = true) : eqF G v w = some (PyData.eqv (avd x) (avd u)) := by
  unfold eqF
  rw [hv 12, hw 12, dat12 hx, dat12 hu]
  have h1 := avd_nice x 11 hx
  have h2 := avd_nice u 11 hu
  simp only
  rw [if_pos]
  unfold SeqAt.shaped
  rw [h1.ly, h2.ly, decide_eq_true (by have := h1.dp; omega : (avd x).depth ≤ 64), decide_eq_true (by have := h2.dp; omega : (avd u).depth ≤ 64)]
  exact ⟨rfl, rfl⟩
end
end Vz
namespace Vz
open PySem L2
def adds {α : Type} : List Addr → Nat → List Addr → (Nat → List Addr → α) → α
  | [], m, acc, k => k m acc
  | a :: r, m, acc, k => HandSHeadRun.frNat a fun a => match Nat.beq (Nat.land (Nat.shiftRight m a) 1) 1 with
    | true => adds r m acc k
    | false => HandSHeadRun.frNat (Nat.add m (Nat.pow 2 a)) fun m => adds r m (a :: acc) k
def bfs (g : Addr → Option Obj) : Nat → Nat → List Addr → List Addr → List Addr
  | 0, _, _, all => all
  | n + 1, m, fr, all => adds (fr.flatMap fun a => match g a with
    | some o => He.refsD o
    | none => []) m [] fun m new => bfs g n m new (all ++ new)
def asY (g : Addr → Option Obj) (n : Nat) : List Addr := bfs g n (2 ^ mainGlobals) [mainGlobals] [mainGlobals]
def lookY (n : Nat) (fx : List Fx) (fn : List He.DefD) (g : Addr → Option Obj) : He.AlD := lookX fx fn (He.frG g (asY g n))
def hkY (n : Nat) (fx : List Fx) (fn : List He.DefD) : PySem.W.Hook :=
  { α := He.AlD, obs := fun st => lookY n fx fn st.heap.get?, val := fun _ => He.valD fn
    says := fun _ hp => ∃ K : PySem.W.Frag, K.In hp ∧ Told fx fn K
    of := fun _ _ q => ⟨_, He.frG_in, ⟨q⟩⟩
    keeps := fun _ _ _ ⟨K, i, t⟩ kp => ⟨K, PySem.W.Frag.In.keeps i kp, t⟩ }
theorem lookY_eq {n : Nat} {fx : List Fx} {fn : List He.DefD} {g : Addr → Option Obj} {st : Shared} (q : ∀ a, g a = st.heap.get? a) : lookY n fx fn g = (hkY n fx fn).obs st := by
  obtain rfl : g = st.heap.get? := funext q
  rfl
end Vz
namespace Vz
open PySem PySem.Spec L2
end Vz
namespace SrtT
open PySem PySem.Spec PyProof.Rows Srt SrtO
abbrev K3 := Int × Bool × Str
abbrev k2 (p : K3) : Int × Int := (p.1, b2i p.2.1)
section
variable {prog : Program} {w : World} {A : Around} {E : Value → Shared → Prop} {s : Shared}
def IsTri (h : Heap) (v : Value) (k : K3) : Prop := ∃ a o t u n, v = .ref a ∧ h.get? a = some o ∧ o.cls = .type "tuple" ∧ o.data = .seq #[.int k.1 t, .str k.2.2 u, .bool k.2.1] n
theorem IsTri.keeps {h h' : Heap} {v : Value} {k : K3} (x : IsTri h v k) (hk : ∀ b o, h.get? b = some o → o.cls = .type "tuple" → h'.get? b = some o) : IsTri h' v k := by
  obtain ⟨a, o, t, u, n, e, ho, hc, hd⟩ := x
  exact ⟨a, o, t, u, n, e, hk a o ho hc, hc, hd⟩
theorem tri_cmp {vs : List Value} {k : Value → K3} (hp : ∀ v ∈ vs, IsTri s.heap v (k v)) (hu : ∀ v ∈ vs, ∀ u ∈ vs, (k v).1 = (k u).1 → (k v).2.2 = (k u).2.2) :
    Cmp prog w A s (tuples' true) (fun p => p.1 ∈ vs) (lt2 fun v u => lexB (k2 (k v)) (k2 (k u))) := by
  intro p q hm hm'
  have h1 := hp _ hm
  have h2 := hp _ hm'
  have h3 := hu _ hm _ hm'
  show wpAny (model prog w) A (keyLt' (tuples' true) p.1 q.1) (fun r s' => s' = s ∧ r = lexB (k2 (k p.1)) (k2 (k q.1))) (fun _ _ => False) s
  generalize k p.1 = x at h1 h3 ⊢
  generalize k q.1 = y at h2 h3 ⊢
  obtain ⟨x, b, z⟩ := x
  obtain ⟨x', b', z'⟩ := y
  obtain ⟨a, o, t, u, n, e, ho, hc, hd⟩ := h1
  obtain ⟨a', o', t', u', n', e', ho', hc', hd'⟩ := h2
  simp only at hd hd' h3
  unfold lexB k2
  simp only
  rw [e, e']
  refine PySem.W.kat_lt ho hd ho' hd' ?_
  show PySem.W.KatLex prog w A true (decide (3 < 3)) _ [(.int x t, .int x' t'), (.str z u, .str z' u'), (.bool b, .bool b')] 0 s
  refine PySem.W.kat_cons (SeqAt.EqAt.int_int x t x' t' prog w _ _ ?_)
  refine PySem.W.kat_go (fun e1 => ?_) (fun e1 => ?_)
  · have ex : x = x' := by simpa using e1
    have ez : z = z' := h3 ex
    subst ez
    refine PySem.W.kat_yes (PySem.W.kat_cons (SeqAt.EqAt.str_str z u z u' prog w _ _ ?_))
    refine PySem.W.kat_go (fun e2 => ?_) (fun e2 => ?_)
    · refine PySem.W.kat_yes (PySem.W.kat_cons (SeqAt.EqAt.bool_bool b b' prog w _ _ ?_))
      refine PySem.W.kat_go (fun e4 => ?_) (fun e4 => ?_)
      · have eb : b = b' := by simpa using e4
        have e3 : (if x = x' then decide (b2i b < b2i b') else decide (x < x')) = false := by
          rw [if_pos ex, eb]
          exact decide_eq_false (Int.lt_irrefl _)
        exact PySem.W.kat_yes (PySem.W.kat_nil ⟨rfl, e3.symm⟩)
      · have e3 : (if x = x' then decide (b2i b < b2i b') else decide (x < x')) = decide (b2i b < b2i b') := if_pos ex
        refine PySem.W.kat_no (PySem.W.kat_one _ _ (PyProof.Rows.lt_bool ?_))
        exact (show s = s ∧ decide (b2i b < b2i b') = (if x = x' then decide (b2i b < b2i b') else decide (x < x')) from ⟨rfl, e3.symm⟩)
    · simp at e2
  · have ex : ¬ x = x' := by simpa using e1
    have e3 : (if x = x' then decide (b2i b < b2i b') else decide (x < x')) = decide (x < x') := if_neg ex
    exact PySem.W.kat_no (oneLt_int ⟨rfl, e3.symm⟩)
theorem firsts3 {h : Heap} : ∀ {vs : List Value}, (∀ v ∈ vs, ∃ k, IsTri h v k) → ∃ fs : List Value, PySem.W.KatTups h vs fs ∧ fs.length = vs.length ∧ ∀ f ∈ fs, ∃ x t, f = Value.int x t
  | [], _ => ⟨[], PySem.W.KatTups.nil, rfl, fun _ hm => by simp at hm⟩
  | v :: vs, hp => by
    obtain ⟨fs, h1, h2, h3⟩ := firsts3 (vs := vs) fun v' hm => hp v' (List.mem_cons_of_mem _ hm)
    obtain ⟨k, a, o, t, u, n, e, ho, hc, hd⟩ := hp v (List.mem_cons_self ..)
    subst e
    refine ⟨.int k.1 t :: fs, PySem.W.KatTups.cons ho hc hd rfl h1, by rw [List.length_cons, List.length_cons, h2], fun f hm => ?_⟩
    rcases List.mem_cons.mp hm with rfl | hm
    · exact ⟨_, t, rfl⟩
    · exact h3 f hm
theorem tri_sortable {a : Addr} {vs : List Value} {k : Value → K3} (h0 : 0 < vs.length) (hp : ∀ v ∈ vs, IsTri s.heap v (k v)) (hu : ∀ v ∈ vs, ∀ u ∈ vs, (k v).1 = (k u).1 → (k v).2.2 = (k u).2.2)
    (ha : ∀ o, s.heap.get? a = some o → o.cls ≠ .type "tuple") : SortableO prog w A s a vs fun v u => lexB (k2 (k v)) (k2 (k u)) := by
  intro h' keep
  have hp' : ∀ v ∈ vs, IsTri h' v (k v) := fun v hm => (hp v hm).keeps fun b o e c => keep b o (fun z => by subst z; exact ha o e c) e
  obtain ⟨fs, h1, h2, h3⟩ := firsts3 fun v hm => ⟨_, hp' v hm⟩
  refine ⟨tuples' true, fun Q E hq => ?_, tri_cmp hp' hu⟩
  refine PySem.W.kat_kind (T := .type "int") h1 (by omega) (fun f hm => ?_) (by rfl) ?_
  · obtain ⟨x, t, rfl⟩ := h3 f hm
    exact PySem.W.Looks.now
  · have e : (Value.type "int" != Value.type "tuple") = true := by first | decide +kernel | rfl | decide
    rw [e]
    exact hq
theorem sorted_tri {l : Addr} {vs : List Value} {k : Value → K3} {Q : Value → Shared → Prop} (hl : s.heap.IsList l vs.toArray) (hz : vs.length ≤ sizeLine) (hp : ∀ v ∈ vs, IsTri s.heap v (k v))
    (hu : ∀ v ∈ vs, ∀ u ∈ vs, (k v).1 = (k u).1 → (k v).2.2 = (k u).2.2)
    (h : ∀ (h' : Heap) (d : Addr) (out : List Value), Srtd (fun v u => lexB (k2 (k v)) (k2 (k u))) out → Stb (fun v u => lexB (k2 (k v)) (k2 (k u))) out vs → (∀ b o, s.heap.get? b = some o → h'.get? b = some o) → s.heap.objs.size ≤ d → (∃ n, h'.get? d = some (seqObj "list" out.toArray n)) → Q (.ref d) { s with heap := h' }) :
    wpAny (model prog w) A (call (.builtin "sorted") [.ref l]) Q E s := by
  refine sorted_ord (swo_lex fun v => k2 (k v)) hl hz (fun h2 h₁ a ha kk => ?_) fun out hs hb => ?_
  · refine tri_sortable (s := { s with heap := h₁ }) (by omega) (fun v hm => (hp v hm).keeps fun b o e _ => (kk b o e).2) hu fun o e => ?_
    have e' : some o = some (seqObj "list" vs.toArray 0) := e.symm.trans ha
    cases e'
    intro c
    exact absurd (Value.type.inj c) (by decide)
  · exact h _ _ out hs hb (fun b o e => sortedAll_old e) (Nat.le_succ _) (sortedAll_at s.heap vs out.toArray)
end
section
variable {α : Type} {lt : α → α → Bool}
def ins (lt : α → α → Bool) (x : α) : List α → List α
  | [] => [x]
  | y :: r => if lt y x = true then y :: ins lt x r else x :: y :: r
def isort (lt : α → α → Bool) : List α → List α
  | [] => []
  | x :: r => ins lt x (isort lt r)
theorem ins_mem {x z : α} : ∀ {l : List α}, z ∈ ins lt x l → z = x ∨ z ∈ l
  | [], h => by simpa [ins] using h
  | y :: r, h => by
    unfold ins at h
    split at h
    · rcases List.mem_cons.mp h with rfl | h
      · exact .inr List.mem_cons_self
      · rcases ins_mem h with e | e
        · exact .inl e
        · exact .inr (List.mem_cons_of_mem _ e)
    · rcases List.mem_cons.mp h with rfl | h
      · exact .inl rfl
      · exact .inr h
theorem ins_ok (O : Swo lt) {x : α} : ∀ {l : List α}, Srtd lt l → Srtd lt (ins lt x l) ∧ Stb lt (ins lt x l) (x :: l)
  | [], _ => ⟨srtd_one _, Stb.refl _⟩
  | y :: r, h => by
    unfold ins
    split
    · next hy =>
      obtain ⟨a, b⟩ := ins_ok O (x := x) (l := r) (List.pairwise_cons.mp h).2
      refine ⟨List.pairwise_cons.mpr ⟨fun z hz => ?_, a⟩, ?_⟩
      · rcases ins_mem hz with rfl | hz
        · exact O.asym _ _ hy
        · exact srtd_head h z hz
      · have q1 : Stb lt ([y] ++ ins lt x r) ([y] ++ (x :: r)) := (Stb.refl [y]).app b
        have q2 : Stb lt ([y] ++ [x] ++ r) ([x] ++ [y] ++ r) := (Stb.swap O fun a ha b hb => by rw [List.mem_singleton.mp ha, List.mem_singleton.mp hb]; exact hy).app (Stb.refl r)
        exact q1.trans q2
    · next hy =>
      have hy : lt y x = false := by
        rcases bcase (lt y x) with q | q
        · exact absurd q hy
        · exact q
      refine ⟨List.pairwise_cons.mpr ⟨fun z hz => ?_, h⟩, Stb.refl _⟩
      rcases List.mem_cons.mp hz with rfl | hz
      · exact hy
      · exact O.tr _ _ _ hy (srtd_head h z hz)
theorem isort_ok (O : Swo lt) : ∀ l : List α, Srtd lt (isort lt l) ∧ Stb lt (isort lt l) l
  | [] => ⟨List.Pairwise.nil, Stb.refl _⟩
  | x :: r => by
    obtain ⟨a, b⟩ := isort_ok O r
    obtain ⟨c, d⟩ := ins_ok O (x := x) a
    exact ⟨c, d.trans ((Stb.refl [x]).app b)⟩
theorem stb_symm {l m : List α} (h : Stb lt l m) : Stb lt m l := ⟨h.perm.symm, fun x => (h.cls x).symm⟩
theorem isort_uniq (O : Swo lt) {ys l : List α} (h1 : Srtd lt ys) (h2 : Stb lt ys l) : ys = isort lt l :=
  stb_uniq O h1 (isort_ok O l).1 (h2.trans (stb_symm (isort_ok O l).2))
end
end SrtT
namespace L2
open PySem PySem.Spec PyProof.Rows
abbrev ltT (k : V → SrtT.K3) (x y : V) : Bool := SrtO.lexB (SrtT.k2 (k x)) (SrtT.k2 (k y))
theorem ltT_swo (k : V → SrtT.K3) : SrtO.Swo (ltT k) := by
  refine ⟨fun x y h => ?_, fun x y z h1 h2 => ?_⟩
  · have a := SrtO.lexB_iff.mp h
    refine SrtO.lexB_no.mpr ?_
    omega
  · have a := SrtO.lexB_no.mp h1
    have b := SrtO.lexB_no.mp h2
    refine SrtO.lexB_no.mpr ?_
    omega
def rSrtT3 (K : PySem.W.Frag) : List V → Hp → VK → Prop := fun vs H Q => ∃ (a : Addr) (xs : List V) (k : V → SrtT.K3), vs = [V.ref a] ∧ SqL K H a xs ∧
  (∀ x ∈ xs, ∃ t, x = V.ref t ∧ H t = some (.tup [.int (k x).1, .str (k x).2.2, .bl (k x).2.1])) ∧ (∀ x ∈ xs, ∀ y ∈ xs, (k x).1 = (k y).1 → (k x).2.2 = (k y).2.2) ∧
  ∀ p, H p = none → Q (.ref p) (upd H p (.lst (SrtT.isort (ltT k) xs)))
section
variable {X : Cx}
theorem vals3 {a b c : V} {us : List Value} (h : Vals [a, b, c] us) : ∃ u1 u2 u3, us = [u1, u2, u3] ∧ RelV a u1 ∧ RelV b u2 ∧ RelV c u3 := by
  cases h with
  | cons r1 h => cases h with
    | cons r2 h => cases h with
      | cons r3 h => cases h; exact ⟨_, _, _, rfl, r1, r2, r3⟩
theorem cr_sortT3 : CallR X (.builtin "sorted") (rSrtT3 X.K) := by
  intro pins s σ H vs us Q I r h
  obtain ⟨a, xs, k, rfl, hs, hx, hu, q⟩ := h
  obtain ⟨its, rv, hl, hz⟩ := I.list hs
  obtain ⟨u, rfl, ru⟩ := vals1 r
  obtain rfl : u = Value.ref a := ru
  obtain ⟨e1, e2⟩ := refs_back rv fun x m => by
    obtain ⟨t, e, _⟩ := hx x m
    exact ⟨t, e⟩
  have hm : ∀ v ∈ its, backV v ∈ xs := fun v hv => by rw [e1]; exact List.mem_map.mpr ⟨_, hv, rfl⟩
  refine SrtT.sorted_tri (k := fun u => k (backV u)) hl.isList (by rw [← rv.length]; exact hz) (fun v hv => ?_) (fun v hv u hu' => hu _ (hm v hv) _ (hm u hu')) fun h' d out h1 h2 kp hd hn => ?_
  · obtain ⟨t, rfl⟩ := e2 v hv
    obtain ⟨t', e, ht⟩ := hx _ (hm _ hv)
    cases e
    obtain ⟨_, its2, r2, o, ho, hc, n, hd⟩ := I.hok _ _ ht
    obtain ⟨u1, u2, u3, rfl, ri, rj, rk⟩ := vals3 r2
    obtain ⟨t1, rfl⟩ := ri
    obtain ⟨t2, rfl⟩ := rj
    obtain rfl := rk
    exact ⟨t, o, t1, t2, n, rfl, ho, hc, hd⟩
  · have h3 : ∀ u ∈ out, ∃ a, u = Value.ref a := fun u hu => e2 u (h2.perm.mem_iff.mp hu)
    obtain ⟨n, hn⟩ := hn
    have hb : SrtO.Stb (ltT k) (out.map backV) xs := by
      rw [e1]
      exact SrtO.Stb.map (ltT_swo k) backV h2
    have hq : out.map backV = SrtT.isort (ltT k) xs := SrtT.isort_uniq (ltT_swo k) (SrtO.srtd_map h1) hb
    have q2 := q d (I.hok.fresh hd)
    rw [← hq] at q2
    refine ⟨.ref d, upd H d (.lst (out.map backV)), I.laid (t' := s.toks) kp hd ⟨?_, out, n, vals_back h3, hn⟩, rfl, q2⟩
    rw [hb.len]
    exact hz
end
end L2
namespace Vz
open PySem L2
def kA3 : AV → SrtT.K3
  | .tup [.int x, .str s, .bl b] => (x, b, s)
  | _ => (0, false, Str.ofString "")
def isTri : AV → Bool
  | .tup [.int _, .str _, .bl _] => true
  | _ => false
def kV3 (H : Hp) : V → SrtT.K3
  | .ref t => match H t with
    | some (.tup [.int x, .str s, .bl b]) => (x, b, s)
    | _ => (0, false, Str.ofString "")
  | _ => (0, false, Str.ofString "")
abbrev lt3 (x y : AV) : Bool := SrtO.lexB (SrtT.k2 (kA3 x)) (SrtT.k2 (kA3 y))
def srt3 (xs : List AV) : List AV := SrtT.isort lt3 xs
def uni3 (xs : List AV) : Bool := xs.all fun x => xs.all fun y => !decide ((kA3 x).1 = (kA3 y).1) || decide ((kA3 x).2.2 = (kA3 y).2.2)
inductive RT3 (K : PySem.W.Frag) (H : Hp) (μ : Mu) : List AV → List V → Prop
  | nil : RT3 K H μ [] []
  | cons {x : AV} {w : V} {xs : List AV} {ws : List V} (h : RA K H μ x w) (e : kV3 H w = kA3 x) (t : RT3 K H μ xs ws) : RT3 K H μ (x :: xs) (w :: ws)
section
variable {K : PySem.W.Frag} {H : Hp} {μ : Mu}
theorem tri_ra {x : AV} {w : V} (r : RA K H μ x w) (h : isTri x = true) : ∃ t, w = V.ref t ∧ kV3 H w = kA3 x ∧ H t = some (.tup [.int (kA3 x).1, .str (kA3 x).2.2, .bl (kA3 x).2.1]) := by
  match x, h, r with
  | .tup [.int n, .str s, .bl b], _, .tup (a := t) hh (.cons r1 (.cons r2 (.cons r3 .nil))) =>
    cases r1
    cases r2
    cases r3
    refine ⟨t, rfl, ?_, hh⟩
    unfold kV3
    simp only [hh]
    rfl
theorem RT3.of : ∀ {xs : List AV} {ws : List V}, RAs K H μ xs ws → xs.all isTri = true → RT3 K H μ xs ws
  | _, _, .nil, _ => .nil
  | _, _, .cons r rs, h => by
    rw [List.all_cons, Bool.and_eq_true] at h
    obtain ⟨_, _, e, _⟩ := tri_ra r h.1
    exact .cons r e (RT3.of rs h.2)
theorem RT3.ras : ∀ {xs : List AV} {ws : List V}, RT3 K H μ xs ws → RAs K H μ xs ws
  | _, _, .nil => .nil
  | _, _, .cons r _ t => .cons r t.ras
theorem RT3.ins {x : AV} {w : V} (r : RA K H μ x w) (e : kV3 H w = kA3 x) : ∀ {xs : List AV} {ws : List V}, RT3 K H μ xs ws → RT3 K H μ (SrtT.ins lt3 x xs) (SrtT.ins (ltT (kV3 H)) w ws)
  | _, _, .nil => .cons r e .nil
  | _, _, .cons (x := y) (w := u) (xs := ys) (ws := us) r' e' t => by
    unfold SrtT.ins
    have e2 : lt3 y x = ltT (kV3 H) u w := by show SrtO.lexB _ _ = SrtO.lexB _ _; rw [e, e']
    rw [e2]
    split
    · exact .cons r' e' (t.ins r e)
    · exact .cons r e (.cons r' e' t)
theorem RT3.sort : ∀ {xs : List AV} {ws : List V}, RT3 K H μ xs ws → RT3 K H μ (SrtT.isort lt3 xs) (SrtT.isort (ltT (kV3 H)) ws)
  | _, _, .nil => .nil
  | _, _, .cons r e t => RT3.ins r e t.sort
theorem RT3.mem : ∀ {xs : List AV} {ws : List V}, RT3 K H μ xs ws → ∀ w ∈ ws, ∃ x ∈ xs, RA K H μ x w ∧ kV3 H w = kA3 x
  | _, _, .nil, w, h => by simp at h
  | _, _, .cons r e t, w, h => by
    rcases List.mem_cons.mp h with rfl | h
    · exact ⟨_, List.mem_cons_self, r, e⟩
    · obtain ⟨x, m, p⟩ := t.mem w h
      exact ⟨x, List.mem_cons_of_mem _ m, p⟩
end
def fSort3I : List AV → Hs → R AV
  | [v], G => match lstOf G v with
    | some xs => if (xs.all isTri && uni3 xs) = true then .ok (.ls (srt3 xs)) G else .stuck
    | none => .stuck
  | _, _ => .stuck
theorem sort3_ok {K : PySem.W.Frag} {H : Hp} {μ : Mu} {xs : List AV} {ws : List V} (rt : RAs K H μ xs ws) (h : (xs.all isTri && uni3 xs) = true) :
    (∀ x ∈ ws, ∃ t, x = V.ref t ∧ H t = some (.tup [.int (kV3 H x).1, .str (kV3 H x).2.2, .bl (kV3 H x).2.1])) ∧ (∀ x ∈ ws, ∀ y ∈ ws, (kV3 H x).1 = (kV3 H y).1 → (kV3 H x).2.2 = (kV3 H y).2.2) ∧
    RAs K H μ (srt3 xs) (SrtT.isort (ltT (kV3 H)) ws) := by
  rw [Bool.and_eq_true] at h
  have r3 := RT3.of rt h.1
  refine ⟨fun w hw => ?_, fun w hw u hu q => ?_, r3.sort.ras⟩
  · obtain ⟨x, m, r, e⟩ := r3.mem w hw
    obtain ⟨t, e1, e2, e3⟩ := tri_ra r (List.all_eq_true.mp h.1 x m)
    rw [e]
    exact ⟨t, e1, e3⟩
  · obtain ⟨x, m, r, e⟩ := r3.mem w hw
    obtain ⟨y, m', r', e'⟩ := r3.mem u hu
    rw [e, e'] at q ⊢
    have a := List.all_eq_true.mp (List.all_eq_true.mp h.2 x m) y m'
    rw [Bool.or_eq_true] at a
    rcases a with a | a
    · rw [decide_eq_true q] at a
      cases a
    · exact of_decide_eq_true a
theorem opN_sort3I {K : PySem.W.Frag} : OpN K (rSrtT3 K) fSort3I := by
  intro W σ H μ G vs xs Q hG rs q
  match vs, rs, q with
  | [v], rs, q =>
    obtain ⟨y, rfl, r⟩ := rs.one
    simp only [fSort3I] at q
    cases e : lstOf G v with
    | none => rw [e] at q; exact q.elim
    | some zs =>
      rw [e] at q
      obtain ⟨a, ws, rfl, hs, rt⟩ := lstOf_ok hG r e
      obtain ⟨hl, q⟩ := po_if q
      obtain ⟨h1, h2, h3⟩ := sort3_ok rt hl
      exact ⟨a, ws, kV3 H, rfl, hs, h1, h2, fun l hl => q _ _ _ (Gr.new hl) (hG.new hl) (ls_new hG hl h3)⟩
section
variable {QV : AV → Hs → Prop} {E : XQ} {G : Hs} {xs : List AV} {n : Nat}
theorem sort3I_L (h : G[n]? = some (.lst xs)) : (fSort3I [.ref n] G).wp QV E = ((xs.all isTri && uni3 xs) = true ∧ QV (.ls (srt3 xs)) G) := by
  have e : lstOf G (.ref n) = some xs := by simp only [lstOf, h]
  unfold fSort3I
  simp only [e]
  exact wp_guard _
end
end Vz
namespace Vz
open PySem L2
end Vz
namespace LNe
open PySem PySem.SeqAt
open AutoSeq1 (wpAny_loadPart')
open MeetsSeq MeetsSeq2 MeetsSeq3 SeqRoads2
section
variable {prog : Program} {w : World}
theorem ne_loopIn (l b : Addr) (items items2 : Array Value) (n n2 : Nat) (dd dd2 : Option Addr) (sl sl2 : Array (Option Value)) (hsz : items.size = items2.size) (k : Nat) :
    ∀ i : Nat, items.size - i = k → MeetsIn prog w (Builtin.«list.__eq__.loop» ⟨[.ref l, .ref b, rawInt i, rawInt 3], []⟩)
      (fun A R s => s.heap.get? l = some { cls := .type "list", dict := dd, data := .seq items n, slots := sl } ∧ s.heap.get? b = some { cls := .type "list", dict := dd2, data := .seq items2 n2, slots := sl2 } ∧
        (∀ j (h1 : j < items.size) (h2 : j < items2.size), EqP prog w A.in1 s items[j] items2[j] true) ∧
        R (.ok (.ret (.bool false))) s) := by
  induction k with
  | zero =>
    intro i hk A R s h
    obtain ⟨hp, g, d, tk, os⟩ := s; obtain ⟨hl, hb, he, h⟩ := h
    wp_walk using wpAny_loadPart' hl, wpAny_loadPart' hb
    have hi1 : items[((i : Nat) : Int).toNat]? = none := by simp; omega
    have hi2 : items2[((i : Nat) : Int).toNat]? = none := by simp; omega
    rw [hi1, hi2]
    wp_walk using wpAny_loadPart' hl, wpAny_loadPart' hb
    show R (.ok (.ret (.bool (items.size != items2.size)))) _
    rw [hsz]
    simpa using h
  | succ k ih =>
    intro i hk A R s h
    obtain ⟨hp, g, d, tk, os⟩ := s; obtain ⟨hl, hb, he, h⟩ := h
    wp_walk using wpAny_loadPart' hl, wpAny_loadPart' hb
    have hlt : i < items.size := by omega
    have hlt2 : i < items2.size := by omega
    have hi1 : items[((i : Nat) : Int).toNat]? = some items[i] := by simp [hlt]
    have hi2 : items2[((i : Nat) : Int).toNat]? = some items2[i] := by simp [hlt2]
    have hc : ((i : Int) + 1) = ((i + 1 : Nat) : Int) := by push_cast; rfl
    rw [hi1, hi2]
    refine wpAny_bind (he i hlt hlt2 _ _ ?_)
    wp_walk
    rw [hc]
    exact ⟨plainId_quiet plain_eq_loop _, codeAny_builtin entry_eq_loop (by
        rw [Around.under_plainId plain_eq_loop _]
        exact ih (i + 1) (by omega) A R _ ⟨hl, hb, he, h⟩)⟩
theorem list_neIn (l b : Addr) (items items2 : Array Value) (n n2 : Nat) (dd dd2 : Option Addr) (sl sl2 : Array (Option Value)) (hsz : items.size = items2.size) :
    MeetsIn prog w (Builtin.«list.__ne__» ⟨[.ref l, .ref b], []⟩)
      (fun A R s => s.heap.get? l = some { cls := .type "list", dict := dd, data := .seq items n, slots := sl } ∧ s.heap.get? b = some { cls := .type "list", dict := dd2, data := .seq items2 n2, slots := sl2 } ∧
        (∀ j (h1 : j < items.size) (h2 : j < items2.size), EqP prog w A.in1 s items[j] items2[j] true) ∧
        R (.ok (.ret (.bool false))) s) := by
  intro A R s h
  obtain ⟨hp, g, d, tk, os⟩ := s; obtain ⟨hl, hb, he, h⟩ := h
  have f3 := AutoSeq1.sub_list_list
  have hne : ¬ (items.size != items2.size) = true := by simp [hsz]
  wp_walk using wpAny_loadPart' hl, wpAny_loadPart' hb
  exact ⟨plainId_quiet plain_eq_loop _, codeAny_builtin entry_eq_loop (by
    rw [Around.under_plainId plain_eq_loop _]
    exact ne_loopIn l b items items2 n n2 dd dd2 sl sl2 hsz _ 0 rfl A R _ ⟨hl, hb, he, h⟩)⟩
theorem ncP_lists {A : Around} {s : Shared} {l b : Addr} {items items2 : Array Value} (hl : s.heap.IsList l items) (hb : s.heap.IsList b items2) (hsz : items.size = items2.size) (hu : A.units < cLine)
    (he : ∀ j (h1 : j < items.size) (h2 : j < items2.size), EqP prog w A.in1 s items[j] items2[j] true) (E Q : Value → Shared → Prop) (h : Q (.bool false) s) : wpAny (model prog w) A (richCompare .NotEq (.ref l) (.ref b)) Q E s := by
  obtain ⟨⟨cls, dd, data, sl⟩, ho, hc, n, hd⟩ := id hl
  obtain ⟨⟨cls2, dd2, data2, sl2⟩, ho2, hc2, n2, hd2⟩ := id hb
  simp only at hc hd hc2 hd2
  subst hc hd hc2 hd2
  have ta : s.TypeIs (.ref l) "list" := ⟨_, ho, rfl⟩
  have tb : s.TypeIs (.ref b) "list" := ⟨_, ho2, rfl⟩
  exact wpAny_richCompare_same_room (op := .NotEq) ta tb F.slot_list_ne (call_meetsIn F.slot_list_ne ta F.entry_list_ne (F.args_list_ne_2 _ _) (list_neIn l b items items2 n n2 dd dd2 sl sl2 hsz)
    ⟨ho, ho2, he, show Value.bool false ≠ Value.notImplemented ∧ Q (.bool false) s from ⟨(fun x => nomatch x), h⟩⟩) hu
end
end LNe
namespace L2
open PySem PySem.Spec PyProof.Rows
/-- surely equal, of nesting below n -/
def EqW (K : PySem.W.Frag) (H : Hp) : Nat → V → V → Prop
  | 0 => fun _ _ => False
  | n + 1 => fun x y => (∃ a, x = .ref a ∧ y = .ref a) ∨ (∃ d e, Dp K H x d ∧ Dp K H y e ∧ SeqAt.shaped d = true ∧ SeqAt.shaped e = true ∧ PyData.eqv d e = true) ∨ EqR K H (EqW K H n) x y
section
variable {X : Cx} {pins : List (Addr × Obj)} {σ : St} {H : Hp} {s : Shared}
theorem eqW_run (I : Inv X pins σ H s) : ∀ (n : Nat) (A : Around), A.units + n + 64 < cLine → ∀ (x y : V) (v u : Value), EqW X.K H n x y → RelV x v → RelV y u → SeqAt.EqP X.prog X.w A s v u true
  | 0, _, _, _, _, _, _, h, _, _ => (show False from h).elim
  | n + 1, A, hu, x, y, v, u, h, rx, ry => by
    rcases h with ⟨a, rfl, rfl⟩ | ⟨d, e, dx, dy, sx, sy, he⟩ | h
    · cases (show v = Value.ref a from rx)
      cases (show u = Value.ref a from ry)
      exact (SeqAt.EqAt.same _).eqP
    · obtain ⟨as, r1⟩ := Dp.reads I _ _ _ dx rx
      obtain ⟨bs, r2⟩ := Dp.reads I _ _ _ dy ry
      have z := SeqAt.EqAt.eqP (prog := X.prog) (w := X.w) (SeqAt.eqAt_reads _ _ A s _ _ as bs r1 r2 (SeqAt.canLay_of_shaped sx) (SeqAt.canLay_of_shaped sy) (SeqAt.room_of_shaped sx (by omega)))
      rw [he] at z
      exact z
    · have step := eqR_run I (A := A) (by omega) (eqW_run I n A.in1 (by show A.units + 1 + n + 64 < cLine; omega)) h rx ry
      obtain ⟨a, b, rfl, rfl⟩ : ∃ a b, x = .ref a ∧ y = .ref b := by
        rcases h with ⟨a, b, _, _, e1, e2, _⟩ | ⟨a, b, _, _, e1, e2, _⟩
        · exact ⟨a, b, e1, e2⟩
        · exact ⟨a, b, e1, e2⟩
      cases (show v = Value.ref a from rx)
      cases (show u = Value.ref b from ry)
      by_cases e : a = b
      · subst e
        exact (SeqAt.EqAt.same _).eqP
      · exact SeqAt.eqP_refs e step
end
def rNeW (K : PySem.W.Frag) : R2 := fun x y H Q => ∃ a b xs ys, x = .ref a ∧ y = .ref b ∧ SqL K H a xs ∧ SqL K H b ys ∧ Paired (EqW K H 8) xs ys ∧ Q (.bl false) H
section
variable {X : Cx}
theorem op_neW (hu : X.A.units + 80 < cLine) : OpR X (compareOp .NotEq) (rNeW X.K) := by
  intro pins s σ H x y v u Q I rx ry h
  obtain ⟨a, b, xs, ys, rfl, rfl, ha, hb, hp, q⟩ := h
  cases (show v = Value.ref a from rx)
  cases (show u = Value.ref b from ry)
  obtain ⟨us, r1, p1, _⟩ := I.list ha
  obtain ⟨ws, r2, p2, _⟩ := I.list hb
  have hsz : us.toArray.size = ws.toArray.size := by
    rw [List.size_toArray, List.size_toArray, ← r1.length, ← r2.length]
    exact Paired.length hp
  refine LNe.ncP_lists p1.isList p2.isList hsz (by omega) (fun j h1 h2 => ?_) _ _ ⟨.bl false, H, I, rfl, q⟩
  have k := items_run (eqW_run I 8 X.A.in1 (by show X.A.units + 1 + 8 + 64 < cLine; omega)) hp r1 r2 j (by simpa using h1) (by simpa using h2)
  simpa using k
end
end L2
namespace Vz
open PySem L2
def all2 (f : AV → AV → Bool) : List AV → List AV → Bool
  | [], [] => true
  | x :: xs, y :: ys => f x y && all2 f xs ys
  | _, _ => false
/-- the same thing that stands behind a number -/
def sameN (G : Hs) : AV → AV → Bool
  | .ref m, .ref n => decide (m = n) && (match G[m]? with
    | some (.ins _ _) => true
    | _ => false)
  | _, _ => false
/-- surely equal -/
def sameX (G : Hs) : Nat → AV → AV → Bool
  | 0, _, _ => false
  | n + 1, v, w => sameN G v w || (eqF G v w == some true) || (match lstOf G v, lstOf G w with
    | some xs, some ys => all2 (sameX G n) xs ys
    | _, _ => false) || (match dkR G v, dkR G w with
    | some ks, some ls => decide (ks.length = ls.length) && ks.all fun p => match getA ls p.1 with
      | some u => sameX G n p.2 u
      | none => false
    | _, _ => false)
section
variable {K : PySem.W.Frag} {H : Hp} {μ : Mu} {G : Hs}
theorem all2_ok {f : AV → AV → Bool} {F : V → V → Prop} (hf : ∀ v w x y, RA K H μ v x → RA K H μ w y → f v w = true → F x y) : ∀ {xs ys : List AV} {vs ws : List V}, RAs K H μ xs vs → RAs K H μ ys ws → all2 f xs ys = true → Paired F vs ws
  | _, _, _, _, .nil, .nil, _ => .nil
  | _, _, _, _, .cons r rs, .cons r' rs', h => by
    rw [all2, Bool.and_eq_true] at h
    exact .cons (hf _ _ _ _ r r' h.1) (all2_ok hf rs rs' h.2)
  | _, _, _, _, .nil, .cons _ _, h => by simp [all2] at h
  | _, _, _, _, .cons _ _, .nil, h => by simp [all2] at h
theorem sameN_ok (hG : RH K H μ G) {v w : AV} {x y : V} (r : RA K H μ v x) (r' : RA K H μ w y) (h : sameN G v w = true) : ∃ a, x = .ref a ∧ y = .ref a := by
  match v, w, r, r', h with
  | .ref m, .ref n, .ref (a := a) h1, .ref (a := b) h2, h =>
    rw [sameN, Bool.and_eq_true] at h
    have e := of_decide_eq_true h.1
    subst e
    have h3 := h.2
    split at h3
    · next e2 =>
      have a1 := hG.lv h1 e2 (by intro z; cases z)
      have a2 := hG.lv h2 e2 (by intro z; cases z)
      rw [a1] at a2
      cases a2
      exact ⟨_, rfl, rfl⟩
    · cases h3
theorem rf_in {κ : Type} {ks : List (κ × AV)} {zs : List (κ × V)} (h : RF K H μ ks zs) : ∀ p ∈ zs, ∃ u, (p.1, u) ∈ ks ∧ RA K H μ u p.2 := by
  obtain ⟨h1, h2⟩ := h
  induction zs generalizing ks with
  | nil => intro p hp; cases hp
  | cons z zs ih =>
    intro p hp
    cases ks with
    | nil => cases h1
    | cons k ks =>
      cases h2 with
      | cons r rs =>
        rcases List.mem_cons.mp hp with rfl | hp
        · have e0 : k.1 = p.1 := (List.cons.inj h1).1
          exact ⟨k.2, by rw [← e0]; exact List.mem_cons_self, r⟩
        · obtain ⟨u, m, r'⟩ := ih (List.cons.inj h1).2 rs p hp
          exact ⟨u, List.mem_cons_of_mem _ m, r'⟩
theorem sameX_ok (hG : RH K H μ G) : ∀ (n : Nat) (v w : AV) (x y : V), RA K H μ v x → RA K H μ w y → sameX G n v w = true → EqW K H n x y
  | 0, _, _, _, _, _, _, h => by simp [sameX] at h
  | n + 1, v, w, x, y, r, r', h => by
    rw [sameX, Bool.or_eq_true, Bool.or_eq_true, Bool.or_eq_true] at h
    rcases h with ((h | h) | h) | h
    · exact .inl (sameN_ok hG r r' h)
    · have h := eq_of_beq h
      unfold eqF at h
      split at h
      · next d e h1 h2 =>
        split at h
        · next hs =>
          exact .inr (.inl ⟨d, e, dat_ok hG 12 v x d r h1, dat_ok hG 12 w y e r' h2, hs.1, hs.2, Option.some.inj h⟩)
        · cases h
      · cases h
    · split at h
      · next xs ys h1 h2 =>
        obtain ⟨a, vs, rfl, s1, t1⟩ := lstOf_ok hG r h1
        obtain ⟨b, ws, rfl, s2, t2⟩ := lstOf_ok hG r' h2
        exact .inr (.inr (.inl ⟨a, b, vs, ws, rfl, rfl, s1, s2, all2_ok (fun v w x y => sameX_ok hG n v w x y) t1 t2 h⟩))
      · cases h
    · split at h
      · next ks ls h1 h2 =>
        rw [Bool.and_eq_true] at h
        obtain ⟨a, vs, rfl, s1, t1⟩ := dkR_ok hG r h1
        obtain ⟨b, ws, rfl, s2, t2⟩ := dkR_ok hG r' h2
        refine .inr (.inr (.inr ⟨a, b, vs, ws, rfl, rfl, s1, s2, ?_, fun p hp => ?_⟩))
        · have e1 := congrArg List.length t1.1
          have e2 := congrArg List.length t2.1
          have e3 := of_decide_eq_true h.1
          simp only [List.length_map] at e1 e2
          omega
        · obtain ⟨u, m, ru⟩ := rf_in t1 p hp
          have z := List.all_eq_true.mp h.2 _ m
          have g := t2.get p.1
          simp only at z
          split at z
          · next u' eu =>
            rw [eu] at g
            obtain ⟨x', e', rx'⟩ := RAo.some_of g
            exact ⟨x', e', sameX_ok hG n _ _ _ _ ru rx' z⟩
          · cases z
      · cases h
end
def fNeW (v w : AV) (G : Hs) : R AV := match lstOf G v, lstOf G w with
  | some xs, some ys => if all2 (sameX G 8) xs ys = true then .ok (.bl false) G else .stuck
  | _, _ => .stuck
theorem op2_neW {K : PySem.W.Frag} : Op2 K (rNeW K) fNeW := by
  intro W σ H μ G v w x y Q hG rv rw' q
  unfold fNeW at q
  split at q
  · next xs ys h1 h2 =>
    obtain ⟨hl, q⟩ := po_if q
    obtain ⟨a, vs, rfl, s1, t1⟩ := lstOf_ok hG rv h1
    obtain ⟨b, ws, rfl, s2, t2⟩ := lstOf_ok hG rw' h2
    exact ⟨a, b, vs, ws, rfl, rfl, s1, s2, all2_ok (fun v w x y => sameX_ok hG 8 v w x y) t1 t2 hl, Po.now (v := AV.bl false) q hG (.bl false)⟩
  · exact q.elim
section
variable {QV : AV → Hs → Prop} {E : XQ} {G : Hs}
theorem neW_wp {v w : AV} {xs ys : List AV} (h1 : lstOf G v = some xs) (h2 : lstOf G w = some ys) (h : all2 (sameX G 8) xs ys = true) : (fNeW v w G).wp QV E = QV (.bl false) G := by
  unfold fNeW
  simp only [h1, h2, h, if_true]
  rfl
end
end Vz
local macro_rules
  | `(tactic| simp_arith [$xs,*]) => `(tactic| try simp only [Vz.wp_dictT, Vz.wp_dputT, Vz.wp_lr, Vz.wp_dgetT1, Vz.wp_dgetT2, Vz.wp_par3, Vz.isS_s, Vz.isL_ls, Vz.starts_SN, Vz.in_tup2, Vz.nin_tup2, Vz.tru_bl, Vz.sz0, Vz.sz1, Vz.sz2, Vz.sz3, Vz.sz4, Vz.sz5, Vz.sz6, Vz.sz7, Vz.sz8, Vz.sz9, Vz.sz10, Vz.sz11, Vz.sz12, Vz.wp_lstI, Vz.fzQ_lsN, Vz.fzQ_tupN, Vz.fzQ_ivN, Vz.fzQ_intN, Vz.fzQ_strN, Vz.fzQ_blN, Vz.fzQ_nonN, Vz.wp_addLs, Vz.wp_addIN, Vz.wp_addIs, Vz.wp_iaddIN, Vz.wp_iaddIs, Vz.ixL0, Vz.ixL1, Vz.ixL2, Vz.ixL3, Vz.list_lsN, Vz.tuple_lsN, Vz.len_lsN, Vz.wipeA, Vz.ixT0, Vz.ixT1, Vz.ixT2, Vz.ixT3, Vz.ixT4, Vz.ixT5, Vz.ixT6, Vz.isN_nN, Vz.notN_nN, Vz.isN_iN, Vz.notN_iN, Vz.gAll, Vz.mg_nmN, Vz.wp_fst, Vz.wp_make, Vz.wp_meth, Vz.wp_aug, Vz.wp_en, Vz.wp_mFn, Vz.startA, List.map_cons, List.map_nil, List.length_cons, List.length_nil, List.replicate, List.cons_append, List.nil_append, Nat.reduceAdd, Nat.reduceSub, Nat.sub_self, Nat.zero_add, Vz.wp_seq, Vz.wp_nxN, Vz.wp_brkN, Vz.wp_contN, Vz.wp_drop, Vz.wp_ret, Vz.wp_retNN, Vz.wp_if, Vz.wp_asg, Vz.wp_par, Vz.wp_dput, Vz.wp_var, Vz.wp_cN, Vz.wp_m2, Vz.wp_m1, Vz.wp_test, Vz.wp_tru, Vz.wp_and, Vz.wp_or, Vz.wp_not, Vz.wp_andV, Vz.wp_orV, Vz.wp_notV, Vz.wp_iteE, Vz.wp_chain, Vz.wp_nilN, Vz.wp_cons, Vz.wp_tup, Vz.wp_lst, Vz.wp_blt, Vz.wp_bm, Vz.wp_call, Vz.wp_sl, Vz.wp_oNN, Vz.wp_oS, Vz.wp_wk, Vz.wp_rg1, Vz.wp_rg2, Vz.wp_okN, List.getElem?_cons_zero, List.getElem?_cons_succ, List.set_cons_zero, List.set_cons_succ, Vz.wp_addN, Vz.wp_subN, Vz.wp_mulI, Vz.wp_modI, Vz.wp_divI, Vz.wp_powI, Vz.wp_ltN, Vz.wp_leN, Vz.wp_gtN, Vz.wp_geN, Vz.wp_eqN, Vz.wp_neN, Vz.wp_eqSN, Vz.wp_neSN, Vz.wp_eqBN, Vz.wp_neBN, and_self, true_and, and_true, Bool.not_true, Bool.not_false, decide_true, decide_false, Bool.false_eq_true, if_true, if_false, $xs,*])
namespace L_k76
open PySem L2 Vz
def top (i : Nat) : Stmt := PySem.Challenge.pw_callvows_k76_codes_exchanged.main.body.getD i (.Pass ⟨0, 0, 0, 0⟩)
abbrev s_leads_of : Stmt := top 36
abbrev N_leads_of : List Str := ["entries", "thunks", "found", "name", "row"]
theorem sc_leads_of : FnScope N_leads_of ["entries", "thunks"] (defScope s_leads_of) := ⟨rfl, rfl, rfl, by decide +kernel, rfl, by decide +kernel, by decide +kernel⟩
def D_leads_of : He.DefD := ⟨("leads_of", none), "leads_of", "leads_of", defArgs s_leads_of, defBody s_leads_of, defScope s_leads_of, [], []⟩
abbrev s_Code___init__ : Stmt := inClass (top 37) 0
abbrev N_Code___init__ : List Str := ["self", "rows", "notes", "entries", "thunks", "vows", "common", "book"]
theorem sc_Code___init__ : FnScope N_Code___init__ ["self", "rows", "notes", "entries", "thunks", "vows", "common", "book"] (defScope s_Code___init__) := ⟨rfl, rfl, rfl, by decide +kernel, rfl, by decide +kernel, by decide +kernel⟩
def D_Code___init__ : He.DefD := ⟨("Code", some "__init__"), "__init__", "Code.__init__", defArgs s_Code___init__, defBody s_Code___init__, defScope s_Code___init__, [], []⟩
abbrev s_Code_need_row : Stmt := inClass (top 37) 1
abbrev N_Code_need_row : List Str := ["self", "at"]
theorem sc_Code_need_row : FnScope N_Code_need_row ["self", "at"] (defScope s_Code_need_row) := ⟨rfl, rfl, rfl, by decide +kernel, rfl, by decide +kernel, by decide +kernel⟩
def D_Code_need_row : He.DefD := ⟨("Code", some "need_row"), "need_row", "Code.need_row", defArgs s_Code_need_row, defBody s_Code_need_row, defScope s_Code_need_row, [], []⟩
abbrev s_Code_with_row : Stmt := inClass (top 37) 2
abbrev N_Code_with_row : List Str := ["self", "at", "row", "rows"]
theorem sc_Code_with_row : FnScope N_Code_with_row ["self", "at", "row"] (defScope s_Code_with_row) := ⟨rfl, rfl, rfl, by decide +kernel, rfl, by decide +kernel, by decide +kernel⟩
def D_Code_with_row : He.DefD := ⟨("Code", some "with_row"), "with_row", "Code.with_row", defArgs s_Code_with_row, defBody s_Code_with_row, defScope s_Code_with_row, [], []⟩
abbrev s_Code_with_note : Stmt := inClass (top 37) 3
abbrev N_Code_with_note : List Str := ["self", "at", "note", "notes"]
theorem sc_Code_with_note : FnScope N_Code_with_note ["self", "at", "note"] (defScope s_Code_with_note) := ⟨rfl, rfl, rfl, by decide +kernel, rfl, by decide +kernel, by decide +kernel⟩
def D_Code_with_note : He.DefD := ⟨("Code", some "with_note"), "with_note", "Code.with_note", defArgs s_Code_with_note, defBody s_Code_with_note, defScope s_Code_with_note, [], []⟩
abbrev s_law_fault : Stmt := top 48
abbrev N_law_fault : List Str := ["_law_code", "_law_way", "_law_at", "_law_fault_here", "e"]
theorem sc_law_fault : FnScope N_law_fault ["_law_code", "_law_way", "_law_at"] (defScope s_law_fault) := ⟨rfl, rfl, rfl, by decide +kernel, rfl, by decide +kernel, by decide +kernel⟩
def D_law_fault : He.DefD := ⟨("_law_fault", none), "_law_fault", "_law_fault", defArgs s_law_fault, defBody s_law_fault, defScope s_law_fault, [], []⟩
abbrev s_law_take : Stmt := top 40
abbrev N_law_take : List Str := ["_law_state", "_law_many", "_law_found", "_law_turn", "_law_cell", "_law_seed", "_law_mixed"]
theorem sc_law_take : FnScope N_law_take ["_law_state", "_law_many"] (defScope s_law_take) := ⟨rfl, rfl, rfl, by decide +kernel, rfl, by decide +kernel, by decide +kernel⟩
def D_law_take : He.DefD := ⟨("_law_take", none), "_law_take", "_law_take", defArgs s_law_take, defBody s_law_take, defScope s_law_take, [], []⟩
abbrev s_law_pick : Stmt := top 41
abbrev N_law_pick : List Str := ["_law_state", "_law_some"]
theorem sc_law_pick : FnScope N_law_pick ["_law_state", "_law_some"] (defScope s_law_pick) := ⟨rfl, rfl, rfl, by decide +kernel, rfl, by decide +kernel, by decide +kernel⟩
def D_law_pick : He.DefD := ⟨("_law_pick", none), "_law_pick", "_law_pick", defArgs s_law_pick, defBody s_law_pick, defScope s_law_pick, [], []⟩
abbrev s_law_told : Stmt := top 47
abbrev N_law_told : List Str := ["_law_code", "_law_names", "_law_function"]
theorem sc_law_told : FnScope N_law_told ["_law_code"] (defScope s_law_told) := ⟨rfl, rfl, rfl, by decide +kernel, rfl, by decide +kernel, by decide +kernel⟩
def D_law_told : He.DefD := ⟨("_law_told", none), "_law_told", "_law_told", defArgs s_law_told, defBody s_law_told, defScope s_law_told, [], []⟩
abbrev s_law_place : Stmt := top 44
abbrev N_law_place : List Str := ["_law_state"]
theorem sc_law_place : FnScope N_law_place ["_law_state"] (defScope s_law_place) := ⟨rfl, rfl, rfl, by decide +kernel, rfl, by decide +kernel, by decide +kernel⟩
def D_law_place : He.DefD := ⟨("_law_place", none), "_law_place", "_law_place", defArgs s_law_place, defBody s_law_place, defScope s_law_place, [], []⟩
abbrev s_law_row : Stmt := top 45
abbrev N_law_row : List Str := ["_law_state", "_law_kind", "_law_place_here"]
theorem sc_law_row : FnScope N_law_row ["_law_state"] (defScope s_law_row) := ⟨rfl, rfl, rfl, by decide +kernel, rfl, by decide +kernel, by decide +kernel⟩
def D_law_row : He.DefD := ⟨("_law_row", none), "_law_row", "_law_row", defArgs s_law_row, defBody s_law_row, defScope s_law_row, [], []⟩
abbrev s_law_note : Stmt := top 46
abbrev N_law_note : List Str := ["_law_state", "_law_some", "_law_lands", "_law_k"]
theorem sc_law_note : FnScope N_law_note ["_law_state"] (defScope s_law_note) := ⟨rfl, rfl, rfl, by decide +kernel, rfl, by decide +kernel, by decide +kernel⟩
def D_law_note : He.DefD := ⟨("_law_note", none), "_law_note", "_law_note", defArgs s_law_note, defBody s_law_note, defScope s_law_note, [], []⟩
abbrev s_bodies_of : Stmt := top 21
abbrev N_bodies_of : List Str := ["statement", "kind"]
theorem sc_bodies_of : FnScope N_bodies_of ["statement"] (defScope s_bodies_of) := ⟨rfl, rfl, rfl, by decide +kernel, rfl, by decide +kernel, by decide +kernel⟩
def D_bodies_of : He.DefD := ⟨("bodies_of", none), "bodies_of", "bodies_of", defArgs s_bodies_of, defBody s_bodies_of, defScope s_bodies_of, [], []⟩
abbrev s_statements_of : Stmt := top 22
abbrev N_statements_of : List Str := ["body", "found", "statement", "inner"]
theorem sc_statements_of : FnScope N_statements_of ["body"] (defScope s_statements_of) := ⟨rfl, rfl, rfl, by decide +kernel, rfl, by decide +kernel, by decide +kernel⟩
def D_statements_of : He.DefD := ⟨("statements_of", none), "statements_of", "statements_of", defArgs s_statements_of, defBody s_statements_of, defScope s_statements_of, [], []⟩
abbrev s_takes : Stmt := top 16
abbrev N_takes : List Str := ["function", "many"]
theorem sc_takes : FnScope N_takes ["function", "many"] (defScope s_takes) := ⟨rfl, rfl, rfl, by decide +kernel, rfl, by decide +kernel, by decide +kernel⟩
def D_takes : He.DefD := ⟨("takes", none), "takes", "takes", defArgs s_takes, defBody s_takes, defScope s_takes, [], []⟩
abbrev s_call_is_wrong : Stmt := top 24
abbrev N_call_is_wrong : List Str := ["statement", "known", "function"]
theorem sc_call_is_wrong : FnScope N_call_is_wrong ["statement", "known"] (defScope s_call_is_wrong) := ⟨rfl, rfl, rfl, by decide +kernel, rfl, by decide +kernel, by decide +kernel⟩
def D_call_is_wrong : He.DefD := ⟨("call_is_wrong", none), "call_is_wrong", "call_is_wrong", defArgs s_call_is_wrong, defBody s_call_is_wrong, defScope s_call_is_wrong, [], []⟩
abbrev s_given_by : Stmt := top 20
abbrev N_given_by : List Str := ["statement", "kind"]
theorem sc_given_by : FnScope N_given_by ["statement"] (defScope s_given_by) := ⟨rfl, rfl, rfl, by decide +kernel, rfl, by decide +kernel, by decide +kernel⟩
def D_given_by : He.DefD := ⟨("given_by", none), "given_by", "given_by", defArgs s_given_by, defBody s_given_by, defScope s_given_by, [], []⟩
abbrev s_parts_of : Stmt := top 17
abbrev N_parts_of : List Str := ["expression"]
theorem sc_parts_of : FnScope N_parts_of ["expression"] (defScope s_parts_of) := ⟨rfl, rfl, rfl, by decide +kernel, rfl, by decide +kernel, by decide +kernel⟩
def D_parts_of : He.DefD := ⟨("parts_of", none), "parts_of", "parts_of", defArgs s_parts_of, defBody s_parts_of, defScope s_parts_of, [], []⟩
abbrev s_all_within : Stmt := top 18
abbrev N_all_within : List Str := ["expressions", "found", "expression"]
theorem sc_all_within : FnScope N_all_within ["expressions"] (defScope s_all_within) := ⟨rfl, rfl, rfl, by decide +kernel, rfl, by decide +kernel, by decide +kernel⟩
def D_all_within : He.DefD := ⟨("all_within", none), "all_within", "all_within", defArgs s_all_within, defBody s_all_within, defScope s_all_within, [], []⟩
abbrev s_expressions_of : Stmt := top 19
abbrev N_expressions_of : List Str := ["statement", "kind"]
theorem sc_expressions_of : FnScope N_expressions_of ["statement"] (defScope s_expressions_of) := ⟨rfl, rfl, rfl, by decide +kernel, rfl, by decide +kernel, by decide +kernel⟩
def D_expressions_of : He.DefD := ⟨("expressions_of", none), "expressions_of", "expressions_of", defArgs s_expressions_of, defBody s_expressions_of, defScope s_expressions_of, [], []⟩
abbrev s_boxes_read : Stmt := top 23
abbrev N_boxes_read : List Str := ["statement", "one"]
theorem sc_boxes_read : FnScope N_boxes_read ["statement"] (defScope s_boxes_read) := ⟨rfl, rfl, rfl, by decide +kernel, rfl, by decide +kernel, by decide +kernel⟩
def D_boxes_read : He.DefD := ⟨("boxes_read", none), "boxes_read", "boxes_read", defArgs s_boxes_read, defBody s_boxes_read, defScope s_boxes_read, [], []⟩
abbrev s_is_name : Stmt := top 14
abbrev N_is_name : List Str := ["text", "sign"]
theorem sc_is_name : FnScope N_is_name ["text"] (defScope s_is_name) := ⟨rfl, rfl, rfl, by decide +kernel, rfl, by decide +kernel, by decide +kernel⟩
def D_is_name : He.DefD := ⟨("is_name", none), "is_name", "is_name", defArgs s_is_name, defBody s_is_name, defScope s_is_name, [], []⟩
abbrev s_wrong_in : Stmt := top 25
abbrev N_wrong_in : List Str := ["function", "statement", "known", "within", "expression", "name", "one"]
theorem sc_wrong_in : FnScope N_wrong_in ["function", "statement", "known"] (defScope s_wrong_in) := ⟨rfl, rfl, rfl, by decide +kernel, rfl, by decide +kernel, by decide +kernel⟩
def D_wrong_in : He.DefD := ⟨("wrong_in", none), "wrong_in", "wrong_in", defArgs s_wrong_in, defBody s_wrong_in, defScope s_wrong_in, [], []⟩
abbrev s_look_at : Stmt := top 26
abbrev N_look_at : List Str := ["function", "ahead", "known", "at", "param", "statement", "word"]
theorem sc_look_at : FnScope N_look_at ["function", "ahead", "known"] (defScope s_look_at) := ⟨rfl, rfl, rfl, by decide +kernel, rfl, by decide +kernel, by decide +kernel⟩
def D_look_at : He.DefD := ⟨("look_at", none), "look_at", "look_at", defArgs s_look_at, defBody s_look_at, defScope s_look_at, [], []⟩
abbrev s_Book___init__ : Stmt := inClass (top 27) 0
abbrev N_Book___init__ : List Str := ["self", "functions", "known", "at", "function", "other"]
theorem sc_Book___init__ : FnScope N_Book___init__ ["self", "functions"] (defScope s_Book___init__) := ⟨rfl, rfl, rfl, by decide +kernel, rfl, by decide +kernel, by decide +kernel⟩
def D_Book___init__ : He.DefD := ⟨("Book", some "__init__"), "__init__", "Book.__init__", defArgs s_Book___init__, defBody s_Book___init__, defScope s_Book___init__, [], []⟩
abbrev s_Function___init__ : Stmt := inClass (top 15) 0
abbrev N_Function___init__ : List Str := ["self", "name", "params", "body", "results", "more"]
theorem sc_Function___init__ : FnScope N_Function___init__ ["self", "name", "params", "body", "results", "more"] (defScope s_Function___init__) := ⟨rfl, rfl, rfl, by decide +kernel, rfl, by decide +kernel, by decide +kernel⟩
def D_Function___init__ : He.DefD := ⟨("Function", some "__init__"), "__init__", "Function.__init__", defArgs s_Function___init__, defBody s_Function___init__, defScope s_Function___init__, [], [("results", .int 0), ("more", .bl false)]⟩
abbrev s_Vow___init__ : Stmt := inClass (top 34) 0
abbrev N_Vow___init__ : List Str := ["self", "handed", "results", "kept", "link", "count", "up", "clears", "named", "number", "part"]
theorem sc_Vow___init__ : FnScope N_Vow___init__ ["self", "handed", "results", "kept", "link", "count", "up", "clears"] (defScope s_Vow___init__) := ⟨rfl, rfl, rfl, by decide +kernel, rfl, by decide +kernel, by decide +kernel⟩
def D_Vow___init__ : He.DefD := ⟨("Vow", some "__init__"), "__init__", "Vow.__init__", defArgs s_Vow___init__, defBody s_Vow___init__, defScope s_Vow___init__, [], [("handed", .adr (kwAt ("Vow", some "__init__") "handed")), ("results", .adr (kwAt ("Vow", some "__init__") "results")), ("kept", .adr (kwAt ("Vow", some "__init__") "kept")), ("link", .non), ("count", .non), ("up", .bl true), ("clears", .str "caller")]⟩
abbrev s_law_vow : Stmt := top 43
abbrev N_law_vow : List Str := ["_law_parts_here"]
theorem sc_law_vow : FnScope N_law_vow ["_law_parts_here"] (defScope s_law_vow) := ⟨rfl, rfl, rfl, by decide +kernel, rfl, by decide +kernel, by decide +kernel⟩
def D_law_vow : He.DefD := ⟨("_law_vow", none), "_law_vow", "_law_vow", defArgs s_law_vow, defBody s_law_vow, defScope s_law_vow, [], []⟩
abbrev s_law_parts : Stmt := top 42
abbrev N_law_parts : List Str := ["_law_state", "_law_pool", "_law_shift", "_law_many", "_law_rows", "_law_ways", "_law_ones", "_law_some", "_law_k", "_law_way"]
theorem sc_law_parts : FnScope N_law_parts ["_law_state"] (defScope s_law_parts) := ⟨rfl, rfl, rfl, by decide +kernel, rfl, by decide +kernel, by decide +kernel⟩
def D_law_parts : He.DefD := ⟨("_law_parts", none), "_law_parts", "_law_parts", defArgs s_law_parts, defBody s_law_parts, defScope s_law_parts, [], []⟩
abbrev s_law_begun : Stmt := top 39
abbrev N_law_begun : List Str := ["_law_script", "_law_cell"]
theorem sc_law_begun : FnScope N_law_begun ["_law_script"] (defScope s_law_begun) := ⟨rfl, rfl, rfl, by decide +kernel, rfl, by decide +kernel, by decide +kernel⟩
def D_law_begun : He.DefD := ⟨("_law_begun", none), "_law_begun", "_law_begun", defArgs s_law_begun, defBody s_law_begun, defScope s_law_begun, [], []⟩
abbrev s_law : Stmt := top 49
abbrev N_law : List Str := ["_law_script", "_law_state", "_law_vow_here", "_law_book", "_law_many", "_law_rows", "_law_notes", "_law_entries_one", "_law_vows_one", "_law_code", "_law_due", "_law_turn", "_law_at", "_law_way", "_law_other", "_law_later", "_law_some", "_law_bad", "_law_fault_here", "_law_k"]
theorem sc_law : FnScope N_law ["_law_script"] (defScope s_law) := ⟨rfl, rfl, rfl, by decide +kernel, rfl, by decide +kernel, by decide +kernel⟩
def D_law : He.DefD := ⟨("law", none), "law", "law", defArgs s_law, defBody s_law, defScope s_law, [], []⟩
abbrev s_xNoVow : Stmt := inClass (top 3) 0
abbrev N_xNoVow : List Str := ["self", "name"]
theorem sc_xNoVow : FnScope N_xNoVow ["self", "name"] (defScope s_xNoVow) := ⟨rfl, rfl, rfl, by decide +kernel, rfl, by decide +kernel, by decide +kernel⟩
def D_xNoVow : He.DefD := ⟨("NoVow", some "__init__"), "__init__", "NoVow.__init__", defArgs s_xNoVow, defBody s_xNoVow, defScope s_xNoVow, [], []⟩
abbrev s_xNoBook : Stmt := inClass (top 4) 0
abbrev N_xNoBook : List Str := ["self", "name", "word"]
theorem sc_xNoBook : FnScope N_xNoBook ["self", "name", "word"] (defScope s_xNoBook) := ⟨rfl, rfl, rfl, by decide +kernel, rfl, by decide +kernel, by decide +kernel⟩
def D_xNoBook : He.DefD := ⟨("NoBook", some "__init__"), "__init__", "NoBook.__init__", defArgs s_xNoBook, defBody s_xNoBook, defScope s_xNoBook, [], []⟩
abbrev s_xNoRow : Stmt := inClass (top 6) 0
abbrev N_xNoRow : List Str := ["self", "at"]
theorem sc_xNoRow : FnScope N_xNoRow ["self", "at"] (defScope s_xNoRow) := ⟨rfl, rfl, rfl, by decide +kernel, rfl, by decide +kernel, by decide +kernel⟩
def D_xNoRow : He.DefD := ⟨("NoRow", some "__init__"), "__init__", "NoRow.__init__", defArgs s_xNoRow, defBody s_xNoRow, defScope s_xNoRow, [], []⟩
noncomputable def k_leads_of_2 : MS := (mSeq (mDrop (mBm isL fExtA (mVar 2) (mCons (mItI 1 (gTp 2 (gCo (gNm 3) (gCo (gNm 4) gNi))) mYes (mTup (mCons (mVar 4) (mCons (mVar 3) (mCons (mC (.bl true)) mNil)))) [3, 4]) mNil))) (mRet (mBlt fSort3I (mCons (mVar 2) mNil))))
noncomputable def b_leads_of : MS := (mSeq (mAsg (mItN 0 (gTp 2 (gCo (gNm 3) (gCo (gNm 4) gNi))) mYes (mTup (mCons (mVar 4) (mCons (mVar 3) (mCons (mC (.bl false)) mNil)))) [3, 4]) (gNm 2)) k_leads_of_2)
noncomputable def f_leads_of : List AV → Hs → R AV := mFn 5 b_leads_of
noncomputable def k_Code___init___8 : MS := (mFst ["Code"] "leads" (mVar 0) (mCall 2 2 0 gAll f_leads_of (mCons (m1 (fFld ["Code"] "entries") (mVar 0)) (mCons (m1 (fFld ["Code"] "thunks") (mVar 0)) mNil)) mNil))
noncomputable def k_Code___init___7 : MS := (mSeq (mFst ["Code"] "book" (mVar 0) (mVar 7)) k_Code___init___8)
noncomputable def k_Code___init___6 : MS := (mSeq (mFst ["Code"] "common" (mVar 0) (mVar 6)) k_Code___init___7)
noncomputable def k_Code___init___5 : MS := (mSeq (mFst ["Code"] "vows" (mVar 0) (mFz (mBlt fDictA (mCons (mVar 5) mNil)))) k_Code___init___6)
noncomputable def k_Code___init___4 : MS := (mSeq (mFst ["Code"] "thunks" (mVar 0) (mFz (mBlt fDictA (mCons (mVar 4) mNil)))) k_Code___init___5)
noncomputable def k_Code___init___3 : MS := (mSeq (mFst ["Code"] "entries" (mVar 0) (mFz (mBlt fDictA (mCons (mVar 3) mNil)))) k_Code___init___4)
noncomputable def k_Code___init___2 : MS := (mSeq (mFst ["Code"] "notes" (mVar 0) (mBlt fTuple (mCons (mVar 2) mNil))) k_Code___init___3)
noncomputable def b_Code___init__ : MS := (mSeq (mFst ["Code"] "rows" (mVar 0) (mBlt fTuple (mCons (mVar 1) mNil))) k_Code___init___2)
noncomputable def f_Code___init__ : List AV → Hs → R AV := mFn 8 b_Code___init__
noncomputable def b_Code_need_row : MS := (mIf (mOr (mTest (m2 fLt (mVar 1) (mC (.int 0)))) (mTest (m2 fGe (mVar 1) (mBlt fLen (mCons (m1 (fFld ["Code"] "rows") (mVar 0)) mNil))))) (mRaise "NoRow" [("at", 1)] 2 (mCons (mVar 1) mNil)) mNx)
noncomputable def f_Code_need_row : List AV → Hs → R AV := mFn 2 b_Code_need_row
noncomputable def k_Code_with_row_3 : MS := (mRet (mFz (mMake "Code" 8 7 0 gAll f_Code___init__ (mCons (mVar 3) (mCons (m1 (fFld ["Code"] "notes") (mVar 0)) (mCons (m1 (fFld ["Code"] "entries") (mVar 0)) (mCons (m1 (fFld ["Code"] "thunks") (mVar 0)) (mCons (m1 (fFld ["Code"] "vows") (mVar 0)) (mCons (m1 (fFld ["Code"] "common") (mVar 0)) (mCons (m1 (fFld ["Code"] "book") (mVar 0)) mNil))))))) mNil)))
noncomputable def k_Code_with_row_2 : MS := (mSeq (mAsg (m2 fAddI (m2 fAddI (mFz (mSl (m1 (fFld ["Code"] "rows") (mVar 0)) mNone (mSome (mVar 1)))) (mTup (mCons (mVar 2) mNil))) (mFz (mSl (m1 (fFld ["Code"] "rows") (mVar 0)) (mSome (m2 fAdd (mVar 1) (mC (.int 1)))) mNone))) (gNm 3)) k_Code_with_row_3)
noncomputable def b_Code_with_row : MS := (mSeq (mDrop (mMeth "Code" "need_row" 2 1 0 gAll f_Code_need_row (mVar 0) (mCons (mVar 1) mNil) mNil)) k_Code_with_row_2)
noncomputable def f_Code_with_row : List AV → Hs → R AV := mFn 4 b_Code_with_row
noncomputable def k_Code_with_note_3 : MS := (mRet (mFz (mMake "Code" 8 7 0 gAll f_Code___init__ (mCons (m1 (fFld ["Code"] "rows") (mVar 0)) (mCons (mVar 3) (mCons (m1 (fFld ["Code"] "entries") (mVar 0)) (mCons (m1 (fFld ["Code"] "thunks") (mVar 0)) (mCons (m1 (fFld ["Code"] "vows") (mVar 0)) (mCons (m1 (fFld ["Code"] "common") (mVar 0)) (mCons (m1 (fFld ["Code"] "book") (mVar 0)) mNil))))))) mNil)))
noncomputable def k_Code_with_note_2 : MS := (mSeq (mAsg (m2 fAddI (m2 fAddI (mFz (mSl (m1 (fFld ["Code"] "notes") (mVar 0)) mNone (mSome (mVar 1)))) (mTup (mCons (mVar 2) mNil))) (mFz (mSl (m1 (fFld ["Code"] "notes") (mVar 0)) (mSome (m2 fAdd (mVar 1) (mC (.int 1)))) mNone))) (gNm 3)) k_Code_with_note_3)
noncomputable def b_Code_with_note : MS := (mSeq (mDrop (mMeth "Code" "need_row" 2 1 0 gAll f_Code_need_row (mVar 0) (mCons (mVar 1) mNil) mNil)) k_Code_with_note_2)
noncomputable def f_Code_with_note : List AV → Hs → R AV := mFn 4 b_Code_with_note
noncomputable def t_law_fault_2 : MS := (mIf (mTest (m2 fEq (mVar 1) (mC (.int 0)))) (mDrop (mMeth "Code" "with_row" 3 2 0 gAll f_Code_with_row (mVar 0) (mCons (mVar 2) (mCons (mTup (mCons (mC (.str "fault")) (mCons (mC (.str "odd")) mNil))) mNil)) mNil)) (mDrop (mMeth "Code" "with_note" 3 2 0 gAll f_Code_with_note (mVar 0) (mCons (mVar 2) (mCons (mTup (mCons (mC (.int 0)) (mCons (mTup (mCons (mC (.str "f")) (mCons (m1 fNeg (mC (.int 1))) mNil))) (mCons (mTup mNil) (mCons (mC .non) mNil))))) mNil)) mNil)))
noncomputable def k_law_fault_2 : MS := (mSeq (mTry [(("VowError", "NoRow"), false), (("NoVow", "NoRow"), false), (("NoBook", "NoRow"), false), (("NoText", "NoRow"), false), (("NoRow", "NoRow"), true), (("NoInput", "NoRow"), false), (("NoStep", "NoRow"), false)] t_law_fault_2 [⟨"NoRow", some 4, (mAsg (mVar 4) (gNm 3))⟩] mNx) (mRet (mVar 3)))
noncomputable def b_law_fault : MS := (mSeq (mAsg (mC .non) (gNm 3)) k_law_fault_2)
noncomputable def f_law_fault : List AV → Hs → R AV := mFn 5 b_law_fault
noncomputable def k_law_take_12 : MS := (mSeq (mAsg (m2 fAdd (m2 fMul (m2 fMod (m2 fPow (mVar 5) (mC (.int 2))) (mC (.int 2147483629))) (mC (.int 2147483587))) (m2 fMod (m2 fPow (mVar 5) (mC (.int 3))) (mC (.int 2147483579)))) (gNm 6)) (mRet (m2 fMod (m2 fDiv (mVar 6) (mC (.int 7))) (mVar 1))))
noncomputable def k_law_take_11 : MS := (mSeq (mDput (mVar 0) (mC (.str "seed")) (mVar 5)) k_law_take_12)
noncomputable def k_law_take_10 : MS := (mSeq (mAsg (m2 fMod (m2 fAdd (m2 fAdd (m2 fMul (m2 fDg (mVar 0) (mC (.str "seed"))) (mC (.int 48271))) (m2 fMul (mVar 4) (m2 fAdd (m2 fMul (mC (.int 2)) (mVar 3)) (mC (.int 3))))) (m2 fPow (mVar 3) (mC (.int 3)))) (mC (.int 2147483647))) (gNm 5)) k_law_take_11)
noncomputable def k_law_take_9 : MS := (mSeq (mAsg (m2 fIx (m2 fDg (mVar 0) (mC (.str "cells"))) (m2 fMod (mVar 3) (mBlt fLen (mCons (m2 fDg (mVar 0) (mC (.str "cells"))) mNil)))) (gNm 4)) k_law_take_10)
noncomputable def k_law_take_8 : MS := (mSeq (mDput (mVar 0) (mC (.str "turn")) (m2 fAdd (mVar 3) (mC (.int 1)))) k_law_take_9)
noncomputable def k_law_take_7 : MS := (mSeq (mAsg (m2 fDg (mVar 0) (mC (.str "turn"))) (gNm 3)) k_law_take_8)
noncomputable def k_law_take_5 : MS := (mSeq (mDput (mVar 0) (mC (.str "rest")) (m2 fDiv (m2 fDg (mVar 0) (mC (.str "rest"))) (mVar 1))) (mRet (mVar 2)))
noncomputable def k_law_take_3 : MS := (mSeq (mIf (mTest (m2 fGt (m2 fDg (mVar 0) (mC (.str "rest"))) (mC (.int 0)))) (mSeq (mAsg (m2 fMod (m2 fDg (mVar 0) (mC (.str "rest"))) (mVar 1)) (gNm 2)) k_law_take_5) mNx) k_law_take_7)
noncomputable def b_law_take : MS := (mSeq (mIf (mAnd (mTest (m2 fEq (m2 fDg (mVar 0) (mC (.str "rest"))) (mC (.int 0)))) (mTest (m2 fNe (m2 fDg (mVar 0) (mC (.str "great"))) (mLst mNil)))) (mDput (mVar 0) (mC (.str "rest")) (mBm isL fPopAt (m2 fDg (mVar 0) (mC (.str "great"))) (mCons (mC (.int 0)) mNil))) mNx) k_law_take_3)
noncomputable def f_law_take : List AV → Hs → R AV := mFn 7 b_law_take
noncomputable def b_law_pick : MS := (mRet (m2 fIx (mVar 1) (mCall 2 2 0 gAll f_law_take (mCons (mVar 0) (mCons (mBlt fLen (mCons (mVar 1) mNil)) mNil)) mNil)))
noncomputable def f_law_pick : List AV → Hs → R AV := mFn 2 b_law_pick
noncomputable def k_law_told_2 : MS := (mRet (mLstI (mCons (m1 (fFld ["Code"] "rows") (mVar 0)) (mCons (m1 (fFld ["Code"] "notes") (mVar 0)) (mCons (m1 (fFld ["Code"] "entries") (mVar 0)) (mCons (m1 (fFld ["Code"] "thunks") (mVar 0)) (mCons (m1 (fFld ["Code"] "vows") (mVar 0)) (mCons (m1 (fFld ["Code"] "common") (mVar 0)) (mCons (mVar 1) mNil)))))))))
noncomputable def b_law_told : MS := (mSeq (mFzA 1 (mAsg (mLc (mWk (m1 (fFld ["Book"] "functions") (m1 (fFld ["Code"] "book") (mVar 0)))) (gNm 2) mYes (m1 (fFld ["Function"] "name") (mVar 2)) [2]) (gNm 1))) k_law_told_2)
noncomputable def f_law_told : List AV → Hs → R AV := mFn 3 b_law_told
noncomputable def b_law_place : MS := (mRet (m2 fIx (mLstI (mCons (mTup (mCons (mC (.str "r")) (mCons (mCall 2 2 0 gAll f_law_take (mCons (mVar 0) (mCons (mC (.int 12)) mNil)) mNil) mNil))) (mCons (mTup (mCons (mC (.str "p")) (mCons (mCall 2 2 0 gAll f_law_take (mCons (mVar 0) (mCons (mC (.int 9)) mNil)) mNil) mNil))) mNil))) (mCall 2 2 0 gAll f_law_take (mCons (mVar 0) (mCons (mC (.int 2)) mNil)) mNil)))
noncomputable def f_law_place : List AV → Hs → R AV := mFn 1 b_law_place
noncomputable def k_law_row_10 : MS := (mRet (m2 fIx (mLstI (mCons (mTup (mCons (mC (.str "enter")) (mCons (mC (.str "fa")) mNil))) (mCons (mTup (mCons (mC (.str "leave")) (mCons (mTup (mCons (mC (.str "p")) mNil)) (mCons (mC (.int 2)) mNil)))) (mCons (mTup (mCons (mC (.str "say")) (mCons (mVar 2) mNil))) (mCons (mTup (mCons (mC (.str "end")) (mCons (mTup (mCons (mVar 2) (mCons (mVar 2) mNil))) mNil))) mNil))))) (m2 fSub (mVar 1) (mC (.int 4)))))
noncomputable def k_law_row_8 : MS := (mSeq (mIf (mTest (m2 fEq (mVar 1) (mC (.int 3)))) (mRet (mTup (mCons (mC (.str "fetch")) (mCons (mVar 2) (mCons (mCall 1 1 0 gAll f_law_place (mCons (mVar 0) mNil) mNil) (mCons (mCall 2 2 0 gAll f_law_take (mCons (mVar 0) (mCons (mC (.int 9)) mNil)) mNil) (mCons (mC (.int 1)) mNil))))))) mNx) k_law_row_10)
noncomputable def k_law_row_6 : MS := (mSeq (mIf (mTest (m2 fEq (mVar 1) (mC (.int 2)))) (mRet (mTup (mCons (mCall 2 2 0 gAll f_law_pick (mCons (mVar 0) (mCons (mLstI (mCons (mC (.str "grow")) (mCons (mC (.str "drop")) (mCons (mC (.str "jump")) mNil)))) mNil)) mNil) (mCons (mCall 2 2 0 gAll f_law_take (mCons (mVar 0) (mCons (mC (.int 9)) mNil)) mNil) mNil)))) mNx) k_law_row_8)
noncomputable def k_law_row_4 : MS := (mSeq (mIf (mTest (m2 fEq (mVar 1) (mC (.int 1)))) (mRet (mTup (mCons (mCall 2 2 0 gAll f_law_pick (mCons (mVar 0) (mCons (mLstI (mCons (mC (.str "plus")) (mCons (mC (.str "less")) (mCons (mC (.str "times")) mNil)))) mNil)) mNil) (mCons (mVar 2) (mCons (mCall 1 1 0 gAll f_law_place (mCons (mVar 0) mNil) mNil) (mCons (mTup (mCons (mC (.str "n")) (mCons (mCall 2 2 0 gAll f_law_take (mCons (mVar 0) (mCons (mC (.int 99)) mNil)) mNil) mNil))) mNil)))))) mNx) k_law_row_6)
noncomputable def k_law_row_2 : MS := (mSeq (mIf (mTest (m2 fEq (mVar 1) (mC (.int 0)))) (mRet (mTup (mCons (mC (.str "save")) (mCons (mVar 2) (mCons (mCall 1 1 0 gAll f_law_place (mCons (mVar 0) mNil) mNil) mNil))))) mNx) k_law_row_4)
noncomputable def b_law_row : MS := (mSeq (mPar 1 2 (mCons (mCall 2 2 0 gAll f_law_take (mCons (mVar 0) (mCons (mC (.int 8)) mNil)) mNil) (mCons (mCall 1 1 0 gAll f_law_place (mCons (mVar 0) mNil) mNil) mNil))) k_law_row_2)
noncomputable def f_law_row : List AV → Hs → R AV := mFn 3 b_law_row
noncomputable def k_law_note_3 : MS := (mRet (mTup (mCons (mCall 2 2 0 gAll f_law_take (mCons (mVar 0) (mCons (mC (.int 9)) mNil)) mNil) (mCons (mCall 2 2 0 gAll f_law_pick (mCons (mVar 0) (mCons (mLstI (mCons (mTup (mCons (mC (.str "f")) (mCons (m1 fNeg (mC (.int 1))) mNil))) (mCons (mTup (mCons (mC (.str "f")) (mCons (mC (.int 2)) mNil))) (mCons (mTup (mCons (mC (.str "r")) (mCons (mC (.int 5)) mNil))) mNil)))) mNil)) mNil) (mCons (mVar 1) (mCons (mVar 2) mNil))))))
noncomputable def k_law_note_2 : MS := (mSeq (mAsg (mCall 2 2 0 gAll f_law_pick (mCons (mVar 0) (mCons (mLstI (mCons (mC .non) (mCons (mTup (mCons (mCall 2 2 0 gAll f_law_take (mCons (mVar 0) (mCons (mC (.int 9)) mNil)) mNil) (mCons (mC (.int 3)) (mCons (mC (.int 1)) mNil)))) mNil))) mNil)) mNil) (gNm 2)) k_law_note_3)
noncomputable def b_law_note : MS := (mSeq (mAsg (mBlt fTuple (mCons (mFz (mLc (mRg1 (mC (.int 12))) (gNm 3) (mTest (m2 fEq (mCall 2 2 0 gAll f_law_take (mCons (mVar 0) (mCons (mC (.int 4)) mNil)) mNil) (mC (.int 0)))) (mTup (mCons (mVar 3) (mCons (mCall 2 2 0 gAll f_law_pick (mCons (mVar 0) (mCons (mLstI (mCons (mC .non) (mCons (mC (.int 0)) (mCons (mC (.int 3)) mNil)))) mNil)) mNil) mNil))) [3])) mNil)) (gNm 1)) k_law_note_2)
noncomputable def f_law_note : List AV → Hs → R AV := mFn 4 b_law_note
noncomputable def k_bodies_of_6 : MS := (mSeq (mIf (mTest (m2 fEq (mVar 1) (mC (.str "try")))) (mRet (mTup (mCons (m2 fIx (mVar 0) (mC (.int 1))) (mCons (m2 fIx (mVar 0) (mC (.int 3))) mNil)))) mNx) (mRet (mTup mNil)))
noncomputable def k_bodies_of_4 : MS := (mSeq (mIf (mTest (m2 fEq (mVar 1) (mC (.str "while")))) (mRet (mTup (mCons (m2 fIx (mVar 0) (mC (.int 2))) mNil))) mNx) k_bodies_of_6)
noncomputable def k_bodies_of_2 : MS := (mSeq (mIf (mTest (m2 fEq (mVar 1) (mC (.str "if")))) (mRet (mTup (mCons (m2 fIx (mVar 0) (mC (.int 2))) (mCons (m2 fIx (mVar 0) (mC (.int 3))) mNil)))) mNx) k_bodies_of_4)
noncomputable def b_bodies_of : MS := (mSeq (mAsg (m2 fIx (mVar 0) (mC (.int 0))) (gNm 1)) k_bodies_of_2)
noncomputable def f_bodies_of : List AV → Hs → R AV := mFn 2 b_bodies_of
noncomputable def l_statements_of_4 (r : Nat → List AV → Hs → R AV) : MS := (mDrop (mBm isL fExtA (mVar 1) (mCons (mCall 1 1 0 gAll (r 0) (mCons (mVar 3) mNil) mNil) mNil)))
noncomputable def k_statements_of_4 (r : Nat → List AV → Hs → R AV) : MS := (mFor (mWk (mCall 1 1 0 gAll f_bodies_of (mCons (mVar 2) mNil) mNil)) (gNm 3) (l_statements_of_4 r))
noncomputable def l_statements_of_2 (r : Nat → List AV → Hs → R AV) : MS := (mSeq (mDrop (mBm isL fApp (mVar 1) (mCons (mVar 2) mNil))) (k_statements_of_4 r))
noncomputable def k_statements_of_2 (r : Nat → List AV → Hs → R AV) : MS := (mSeq (mFor (mWk (mVar 0)) (gNm 2) (l_statements_of_2 r)) (mRet (mFz (mVar 1))))
noncomputable def b_statements_of (r : Nat → List AV → Hs → R AV) : MS := (mSeq (mAsg (mLst mNil) (gNm 1)) (k_statements_of_2 r))
noncomputable def step_statements_of (r : Nat → List AV → Hs → R AV) : Nat → List AV → Hs → R AV
  | 0 => mFn 4 (b_statements_of r)
  | _ => fun _ _ => .stuck
noncomputable def f_statements_of : List AV → Hs → R AV := ringF step_statements_of 20 0
noncomputable def b_takes : MS := (mRet (mOrV (m2 fEq (mVar 1) (mBlt fLen (mCons (m1 (fFld ["Function"] "params") (mVar 0)) mNil))) (mAndV (m1 (fFld ["Function"] "more") (mVar 0)) (m2 fGt (mVar 1) (mBlt fLen (mCons (m1 (fFld ["Function"] "params") (mVar 0)) mNil))))))
noncomputable def f_takes : List AV → Hs → R AV := mFn 2 b_takes
noncomputable def k_call_is_wrong_6 : MS := (mRet (mNotV (mCall 2 2 0 gAll f_takes (mCons (mVar 2) (mCons (mBlt fLen (mCons (m2 fIx (mVar 0) (mC (.int 3))) mNil)) mNil)) mNil)))
noncomputable def k_call_is_wrong_4 : MS := (mSeq (mIf (mOr (mTest (m2 fIsN (mVar 2) (mC .non))) (mTest (m2 fNe (m1 (fFld ["Function", "Vow"] "results") (mVar 2)) (mBlt fLen (mCons (m2 fIx (mVar 0) (mC (.int 1))) mNil))))) (mRet (mC (.bl true))) mNx) k_call_is_wrong_6)
noncomputable def k_call_is_wrong_3 : MS := (mSeq (mAsg (mDget1 (mVar 1) (m2 fIx (mVar 0) (mC (.int 2)))) (gNm 2)) k_call_is_wrong_4)
noncomputable def b_call_is_wrong : MS := (mSeq (mIf (mTest (m2 fNe (m2 fIx (mVar 0) (mC (.int 0))) (mC (.str "call")))) (mRet (mC (.bl false))) mNx) k_call_is_wrong_3)
noncomputable def f_call_is_wrong : List AV → Hs → R AV := mFn 3 b_call_is_wrong
noncomputable def k_given_by_6 : MS := (mSeq (mIf (mTest (m2 fEq (mVar 1) (mC (.str "try")))) (mRet (mTup (mCons (m2 fIx (mVar 0) (mC (.int 2))) mNil))) mNx) (mRet (mTup mNil)))
noncomputable def k_given_by_4 : MS := (mSeq (mIf (mOr (mTest (m2 fEq (mVar 1) (mC (.str "set")))) (mTest (m2 fEq (mVar 1) (mC (.str "at"))))) (mRet (mTup (mCons (m2 fIx (mVar 0) (mC (.int 1))) mNil))) mNx) k_given_by_6)
noncomputable def k_given_by_2 : MS := (mSeq (mIf (mTest (m2 fEq (mVar 1) (mC (.str "call")))) (mRet (mBlt fTuple (mCons (m2 fIx (mVar 0) (mC (.int 1))) mNil))) mNx) k_given_by_4)
noncomputable def b_given_by : MS := (mSeq (mAsg (m2 fIx (mVar 0) (mC (.int 0))) (gNm 1)) k_given_by_2)
noncomputable def f_given_by : List AV → Hs → R AV := mFn 2 b_given_by
noncomputable def b_parts_of : MS := (mSeq (mIf (mOr (mTest (m2 fIn (m2 fIx (mVar 0) (mC (.int 0))) (mC (.con [.str "plus", .str "less", .str "times", .str "under", .str "same"])))) (mTest (m2 fEq (m2 fIx (mVar 0) (mC (.int 0))) (mC (.str "extra"))))) (mRet (mFz (mSl (mVar 0) (mSome (mC (.int 1))) mNone))) mNx) (mRet (mTup mNil)))
noncomputable def f_parts_of : List AV → Hs → R AV := mFn 1 b_parts_of
noncomputable def k_all_within_4 (r : Nat → List AV → Hs → R AV) : MS := (mDrop (mBm isL fExtA (mVar 1) (mCons (mCall 1 1 0 gAll (r 0) (mCons (mCall 1 1 0 gAll f_parts_of (mCons (mVar 2) mNil) mNil) mNil) mNil) mNil)))
noncomputable def l_all_within_2 (r : Nat → List AV → Hs → R AV) : MS := (mSeq (mDrop (mBm isL fApp (mVar 1) (mCons (mVar 2) mNil))) (k_all_within_4 r))
noncomputable def k_all_within_2 (r : Nat → List AV → Hs → R AV) : MS := (mSeq (mFor (mWk (mVar 0)) (gNm 2) (l_all_within_2 r)) (mRet (mFz (mVar 1))))
noncomputable def b_all_within (r : Nat → List AV → Hs → R AV) : MS := (mSeq (mAsg (mLst mNil) (gNm 1)) (k_all_within_2 r))
noncomputable def step_all_within (r : Nat → List AV → Hs → R AV) : Nat → List AV → Hs → R AV
  | 0 => mFn 3 (b_all_within r)
  | _ => fun _ _ => .stuck
noncomputable def f_all_within : List AV → Hs → R AV := ringF step_all_within 20 0
noncomputable def k_expressions_of_10 : MS := (mSeq (mIf (mTest (m2 fEq (mVar 1) (mC (.str "try")))) (mRet (mTup mNil)) mNx) (mRet (mTup (mCons (m2 fIx (mVar 0) (mC (.int 1))) mNil))))
noncomputable def k_expressions_of_8 : MS := (mSeq (mIf (mTest (m2 fEq (mVar 1) (mC (.str "return")))) (mRet (m2 fIx (mVar 0) (mC (.int 1)))) mNx) k_expressions_of_10)
noncomputable def k_expressions_of_6 : MS := (mSeq (mIf (mTest (m2 fEq (mVar 1) (mC (.str "at")))) (mRet (m2 fAddI (mTup (mCons (m2 fIx (mVar 0) (mC (.int 2))) mNil)) (mBlt fTuple (mCons (m2 fIx (mVar 0) (mC (.int 3))) mNil)))) mNx) k_expressions_of_8)
noncomputable def k_expressions_of_4 : MS := (mSeq (mIf (mTest (m2 fEq (mVar 1) (mC (.str "call")))) (mRet (m2 fIx (mVar 0) (mC (.int 3)))) mNx) k_expressions_of_6)
noncomputable def k_expressions_of_2 : MS := (mSeq (mIf (mTest (m2 fEq (mVar 1) (mC (.str "set")))) (mRet (mTup (mCons (m2 fIx (mVar 0) (mC (.int 2))) mNil))) mNx) k_expressions_of_4)
noncomputable def b_expressions_of : MS := (mSeq (mAsg (m2 fIx (mVar 0) (mC (.int 0))) (gNm 1)) k_expressions_of_2)
noncomputable def f_expressions_of : List AV → Hs → R AV := mFn 2 b_expressions_of
noncomputable def b_boxes_read : MS := (mRet (mFz (mLc (mWk (mCall 1 1 0 gAll f_all_within (mCons (mCall 1 1 0 gAll f_expressions_of (mCons (mVar 0) mNil) mNil) mNil) mNil)) (gNm 1) (mTest (m2 fEq (m2 fIx (mVar 1) (mC (.int 0))) (mC (.str "box")))) (m2 fIx (mVar 1) (mC (.int 1))) [1])))
noncomputable def f_boxes_read : List AV → Hs → R AV := mFn 2 b_boxes_read
noncomputable def k_is_name_3 : MS := (mRet (mBlt fAll (mCons (mFz (mLc (mWk (mVar 0)) (gNm 1) mYes (m2 fIn (mVar 1) (mC (.str "abcdefghijklmnopqrstuvwxyz"))) [1])) mNil)))
noncomputable def b_is_name : MS := (mSeq (mIf (mOr (mTest (m2 fLt (mBlt fLen (mCons (mVar 0) mNil)) (mC (.int 1)))) (mOr (mTest (m2 fGt (mBlt fLen (mCons (mVar 0) mNil)) (mC (.int 8)))) (mTest (m2 fIn (mVar 0) (mC (.con [.str "number", .str "plus", .str "less", .str "times", .str "under", .str "same", .str "ref", .str "many", .str "extra", .str "fn", .str "set", .str "say", .str "if", .str "else", .str "while", .str "call", .str "at", .str "return", .str "throw", .str "try", .str "catch", .str "end", .str "more"])))))) (mRet (mC (.bl false))) mNx) k_is_name_3)
noncomputable def f_is_name : List AV → Hs → R AV := mFn 2 b_is_name
noncomputable def k_wrong_in_11 : MS := (mSeq (mIf (mAnd (mNot (mTru (m1 (fFld ["Function"] "more") (mVar 0)))) (mTest (m2 fNe (mFz (mLc (mWk (mVar 3)) (gNm 6) (mTest (m2 fIn (m2 fIx (mVar 6) (mC (.int 0))) (mTup (mCons (mC (.str "many")) (mCons (mC (.str "extra")) mNil))))) (mVar 6) [6])) (mLstI mNil)))) (mRet (mC (.str "many"))) mNx) (mRet (mC .non)))
noncomputable def k_wrong_in_9 : MS := (mSeq (mIf (mAnd (mTest (m2 fEq (m2 fIx (mVar 1) (mC (.int 0))) (mC (.str "return")))) (mTest (m2 fNe (mBlt fLen (mCons (m2 fIx (mVar 1) (mC (.int 1))) mNil)) (m1 (fFld ["Function", "Vow"] "results") (mVar 0))))) (mRet (mC (.str "return"))) mNx) k_wrong_in_11)
noncomputable def l_wrong_in_6 : MS := (mIf (mAnd (mTest (m2 fEq (m2 fIx (mVar 4) (mC (.int 0))) (mC (.str "ref")))) (mOr (mTest (m2 fNinK (m2 fIx (mVar 4) (mC (.int 1))) (mVar 2))) (mTest (m2 fNe (m1 (fFld ["Function", "Vow"] "results") (m2 fDg (mVar 2) (m2 fIx (mVar 4) (mC (.int 1))))) (mC (.int 1)))))) (mRet (mC (.str "ref"))) mNx)
noncomputable def k_wrong_in_6 : MS := (mSeq (mFor (mWk (mVar 3)) (gNm 4) l_wrong_in_6) k_wrong_in_9)
noncomputable def k_wrong_in_4 : MS := (mSeq (mIf (mTru (mCall 2 2 0 gAll f_call_is_wrong (mCons (mVar 1) (mCons (mVar 2) mNil)) mNil)) (mRet (mC (.str "call"))) mNx) k_wrong_in_6)
noncomputable def k_wrong_in_2 : MS := (mSeq (mIf (mNot (mTru (mBlt fAll (mCons (mFz (mLc (mWk (m2 fAddI (mBlt fListI (mCons (mCall 1 1 0 gAll f_given_by (mCons (mVar 1) mNil) mNil) mNil)) (mCall 1 1 0 gAll f_boxes_read (mCons (mVar 1) mNil) mNil))) (gNm 5) mYes (mCall 1 1 0 gAll f_is_name (mCons (mVar 5) mNil) mNil) [5])) mNil)))) (mRet (mC (.str "box"))) mNx) k_wrong_in_4)
noncomputable def b_wrong_in : MS := (mSeq (mAsg (mCall 1 1 0 gAll f_all_within (mCons (mCall 1 1 0 gAll f_expressions_of (mCons (mVar 1) mNil) mNil) mNil) mNil) (gNm 3)) k_wrong_in_2)
noncomputable def f_wrong_in : List AV → Hs → R AV := mFn 7 b_wrong_in
noncomputable def k_look_at_8 : MS := (mIf (mTest (m2 fNotN (mVar 6) (mC .non))) (mRaise "NoBook" [("name", 1), ("word", 2)] 3 (mCons (m1 (fFld ["Function"] "name") (mVar 0)) (mCons (mVar 6) mNil))) mNx)
noncomputable def l_look_at_6 : MS := (mSeq (mAsg (mCall 3 3 0 gAll f_wrong_in (mCons (mVar 0) (mCons (mVar 5) (mCons (mVar 2) mNil))) mNil) (gNm 6)) k_look_at_8)
noncomputable def k_look_at_6 : MS := (mFor (mWk (mCall 1 1 0 gAll f_statements_of (mCons (m1 (fFld ["Function"] "body") (mVar 0)) mNil) mNil)) (gNm 5) l_look_at_6)
noncomputable def l_look_at_3 : MS := (mIf (mOr (mNot (mTru (mCall 1 1 0 gAll f_is_name (mCons (mVar 4) mNil) mNil))) (mTest (m2 fIn (mVar 4) (mFz (mSl (m1 (fFld ["Function"] "params") (mVar 0)) mNone (mSome (mVar 3))))))) (mRaise "NoBook" [("name", 1), ("word", 2)] 3 (mCons (m1 (fFld ["Function"] "name") (mVar 0)) (mCons (mC (.str "box")) mNil))) mNx)
noncomputable def k_look_at_3 : MS := (mSeq (mFor (mEn (m1 (fFld ["Function"] "params") (mVar 0))) (gTp 2 (gCo (gNm 3) (gCo (gNm 4) gNi))) l_look_at_3) k_look_at_6)
noncomputable def b_look_at : MS := (mSeq (mIf (mOr (mNot (mTru (mCall 1 1 0 gAll f_is_name (mCons (m1 (fFld ["Function"] "name") (mVar 0)) mNil) mNil))) (mTest (m2 fIn (m1 (fFld ["Function"] "name") (mVar 0)) (mVar 1)))) (mRaise "NoBook" [("name", 1), ("word", 2)] 3 (mCons (m1 (fFld ["Function"] "name") (mVar 0)) (mCons (mC (.str "name")) mNil))) mNx) k_look_at_3)
noncomputable def f_look_at : List AV → Hs → R AV := mFn 7 b_look_at
noncomputable def k_Book___init___7 : MS := (mIf (mTru (m1 (fFld ["Function"] "more") (m2 fIx (m1 (fFld ["Book"] "functions") (mVar 0)) (mC (.int 0))))) (mRaise "NoBook" [("name", 1), ("word", 2)] 3 (mCons (m1 (fFld ["Function"] "name") (m2 fIx (m1 (fFld ["Book"] "functions") (mVar 0)) (mC (.int 0)))) (mCons (mC (.str "first")) mNil))) mNx)
noncomputable def k_Book___init___5 : MS := (mSeq (mIf (mTest (m2 fEqE (m1 (fFld ["Book"] "functions") (mVar 0)) (mTup mNil))) (mRaise "NoBook" [("name", 1), ("word", 2)] 3 (mCons (mC (.str "")) (mCons (mC (.str "first")) mNil))) mNx) k_Book___init___7)
noncomputable def l_Book___init___3 : MS := (mDrop (mCall 3 3 0 gAll f_look_at (mCons (mVar 4) (mCons (mFz (mLc (mWk (mFz (mSl (m1 (fFld ["Book"] "functions") (mVar 0)) mNone (mSome (mVar 3))))) (gNm 5) mYes (m1 (fFld ["Function"] "name") (mVar 5)) [5])) (mCons (mVar 2) mNil))) mNil))
noncomputable def k_Book___init___3 : MS := (mSeq (mFor (mEn (m1 (fFld ["Book"] "functions") (mVar 0))) (gTp 2 (gCo (gNm 3) (gCo (gNm 4) gNi))) l_Book___init___3) k_Book___init___5)
noncomputable def k_Book___init___2 : MS := (mSeq (mFzA 2 (mAsg (mDc (mWk (mFz (m1 fRev (m1 (fFld ["Book"] "functions") (mVar 0))))) (gNm 4) mYes (m1 (fFld ["Function"] "name") (mVar 4)) (mVar 4) [4]) (gNm 2))) k_Book___init___3)
noncomputable def b_Book___init__ : MS := (mSeq (mFst ["Book"] "functions" (mVar 0) (mBlt fTuple (mCons (mVar 1) mNil))) k_Book___init___2)
noncomputable def f_Book___init__ : List AV → Hs → R AV := mFn 6 b_Book___init__
noncomputable def k_Function___init___4 : MS := (mSeq (mFst ["Function", "Vow"] "results" (mVar 0) (mVar 4)) (mFst ["Function"] "more" (mVar 0) (mVar 5)))
noncomputable def k_Function___init___3 : MS := (mSeq (mFst ["Function"] "body" (mVar 0) (mVar 3)) k_Function___init___4)
noncomputable def k_Function___init___2 : MS := (mSeq (mFst ["Function"] "params" (mVar 0) (mBlt fTuple (mCons (mVar 2) mNil))) k_Function___init___3)
noncomputable def b_Function___init__ : MS := (mSeq (mFst ["Function"] "name" (mVar 0) (mVar 1)) k_Function___init___2)
noncomputable def f_Function___init__ : List AV → Hs → R AV := mFn 6 b_Function___init__
noncomputable def k_Vow___init___11 : MS := (mSeq (mFst ["Vow"] "up" (mVar 0) (mVar 6)) (mFst ["Vow"] "clears" (mVar 0) (mVar 7)))
noncomputable def k_Vow___init___10 : MS := (mSeq (mFst ["Vow"] "count" (mVar 0) (mVar 5)) k_Vow___init___11)
noncomputable def k_Vow___init___9 : MS := (mSeq (mFst ["Vow"] "link" (mVar 0) (mVar 4)) k_Vow___init___10)
noncomputable def k_Vow___init___8 : MS := (mSeq (mFst ["Vow"] "kept" (mVar 0) (mBlt fTuple (mCons (mVar 3) mNil))) k_Vow___init___9)
noncomputable def k_Vow___init___7 : MS := (mSeq (mFst ["Function", "Vow"] "results" (mVar 0) (mBlt fTuple (mCons (mVar 2) mNil))) k_Vow___init___8)
noncomputable def k_Vow___init___6 : MS := (mSeq (mFst ["Vow"] "handed" (mVar 0) (mBlt fTuple (mCons (mVar 1) mNil))) k_Vow___init___7)
noncomputable def k_Vow___init___4 : MS := (mSeq (mIf (mNot (mTru (mBlt fAll (mCons (mFz (mLc2 (mWk (mTup (mCons (mVar 1) (mCons (mVar 2) (mCons (mVar 3) (mCons (mVar 8) mNil)))))) (gNm 10) mYes (mWk (mVar 10)) (gNm 9) mYes (mChain fLe fLt (mC (.int 0)) (mVar 9) (mC (.int 12))) [10, 9] [9])) mNil)))) (mRaise "NoVow" [("name", 1)] 2 (mCons (mC (.str "")) mNil)) mNx) k_Vow___init___6)
noncomputable def k_Vow___init___2 : MS := (mSeq (mIf (mOr (mTest (m2 fGt (mBlt fLen (mCons (mVar 1) mNil)) (mC (.int 4)))) (mOr (mTest (m2 fNe (mBlt fLen (mCons (mVar 2) mNil)) (mC (.int 3)))) (mTest (m2 fNin (mVar 7) (mTup (mCons (mC (.str "caller")) (mCons (mC (.str "callee")) mNil))))))) (mRaise "NoVow" [("name", 1)] 2 (mCons (mC (.str "")) mNil)) mNx) k_Vow___init___4)
noncomputable def b_Vow___init__ : MS := (mSeq (mFzA 8 (mAsg (mLc (mWk (mTup (mCons (mVar 4) (mCons (mVar 5) mNil)))) (gNm 9) (mTest (m2 fNotN (mVar 9) (mC .non))) (mVar 9) [9]) (gNm 8))) k_Vow___init___2)
noncomputable def f_Vow___init__ : List AV → Hs → R AV := mFn 11 b_Vow___init__
noncomputable def b_law_vow : MS := (mRet (mMake "Vow" 8 0 7 (gP [] [.p 0, .k 1, .k 3, .k 0, .k 2, .k 6, .k 5, .k 4]) f_Vow___init__ mNil (mCons (m2 fIx (mVar 0) (mC (.int 2))) (mCons (m2 fIx (mVar 0) (mC (.int 0))) (mCons (m2 fIx (mVar 0) (mC (.int 3))) (mCons (m2 fIx (mVar 0) (mC (.int 1))) (mCons (m2 fIx (mVar 0) (mC (.int 6))) (mCons (m2 fIx (mVar 0) (mC (.int 5))) (mCons (m2 fIx (mVar 0) (mC (.int 4))) mNil)))))))))
noncomputable def f_law_vow : List AV → Hs → R AV := mFn 1 b_law_vow
noncomputable def k_law_parts_8 : MS := (mRet (mTup (mCons (m2 fIx (mVar 4) (mC (.int 0))) (mCons (m2 fIx (mVar 4) (mC (.int 1))) (mCons (m2 fIx (mVar 4) (mC (.int 2))) (mCons (m2 fIx (mVar 6) (mC (.int 0))) (mCons (m2 fIx (mVar 6) (mC (.int 1))) (mCons (m2 fEq (m2 fIx (mVar 5) (mC (.int 2))) (mC (.int 0))) (mCons (m2 fIx (mLstI (mCons (mC (.str "caller")) (mCons (mC (.str "callee")) mNil))) (m2 fIx (mVar 5) (mC (.int 3)))) mNil)))))))))
noncomputable def k_law_parts_7 : MS := (mSeq (mFzA 6 (mAsg (mLc (mWk (mFz (mSl (mVar 5) mNone (mSome (mC (.int 2)))))) (gNm 9) mYes (mIte (mTest (m2 fEq (mVar 9) (mC (.int 0)))) (mC .non) (m2 fMod (m2 fAdd (mVar 2) (mCall 2 2 0 gAll f_law_take (mCons (mVar 0) (mCons (mVar 1) mNil)) mNil)) (mC (.int 12)))) [9]) (gNm 6))) k_law_parts_8)
noncomputable def k_law_parts_6 : MS := (mSeq (mAsg (mLstI (mCons (mCall 2 2 0 gAll f_law_take (mCons (mVar 0) (mCons (mC (.int 3)) mNil)) mNil) (mCons (mCall 2 2 0 gAll f_law_take (mCons (mVar 0) (mCons (mC (.int 3)) mNil)) mNil) (mCons (mCall 2 2 0 gAll f_law_take (mCons (mVar 0) (mCons (mC (.int 2)) mNil)) mNil) (mCons (mCall 2 2 0 gAll f_law_take (mCons (mVar 0) (mCons (mC (.int 2)) mNil)) mNil) mNil))))) (gNm 5)) k_law_parts_7)
noncomputable def k_law_parts_5 : MS := (mSeq (mFzA 4 (mAsg (mLc (mWk (mVar 3)) (gNm 7) mYes (mBlt fTuple (mCons (mFz (mLc (mRg1 (mVar 7)) (gNm 8) mYes (m2 fMod (m2 fAdd (mVar 2) (mCall 2 2 0 gAll f_law_take (mCons (mVar 0) (mCons (mVar 1) mNil)) mNil)) (mC (.int 12))) [8])) mNil)) [7]) (gNm 4))) k_law_parts_6)
noncomputable def k_law_parts_4 : MS := (mSeq (mAsg (mLstI (mCons (mCall 2 2 0 gAll f_law_take (mCons (mVar 0) (mCons (mC (.int 5)) mNil)) mNil) (mCons (mC (.int 3)) (mCons (mCall 2 2 0 gAll f_law_take (mCons (mVar 0) (mCons (mC (.int 5)) mNil)) mNil) mNil)))) (gNm 3)) k_law_parts_5)
noncomputable def k_law_parts_3 : MS := (mSeq (mAsg (mCall 2 2 0 gAll f_law_take (mCons (mVar 0) (mCons (mC (.int 12)) mNil)) mNil) (gNm 2)) k_law_parts_4)
noncomputable def k_law_parts_2 : MS := (mSeq (mAsg (m2 fIx (mLstI (mCons (mVar 1) (mCons (mC (.int 12)) (mCons (mC (.int 12)) mNil)))) (mCall 2 2 0 gAll f_law_take (mCons (mVar 0) (mCons (mC (.int 3)) mNil)) mNil)) (gNm 1)) k_law_parts_3)
noncomputable def b_law_parts : MS := (mSeq (mAsg (m2 fAdd (mC (.int 1)) (mCall 2 2 0 gAll f_law_take (mCons (mVar 0) (mCons (mC (.int 12)) mNil)) mNil)) (gNm 1)) k_law_parts_2)
noncomputable def f_law_parts : List AV → Hs → R AV := mFn 10 b_law_parts
noncomputable def b_law_begun : MS := (mRet (mDict [((mC (.str "great")), (mLc (mWk (mVar 0)) (gNm 1) (mTest (m2 fGe (mVar 1) (m2 fPow (mC (.int 10)) (mC (.int 18))))) (mVar 1) [1])), ((mC (.str "rest")), (mC (.int 0))), ((mC (.str "turn")), (mC (.int 0))), ((mC (.str "seed")), (mC (.int 7))), ((mC (.str "cells")), (m2 fAdd (mLc (mWk (mVar 0)) (gNm 1) mYes (m2 fMod (mVar 1) (mC (.int 2147483629))) [1]) (mLst (mCons (mC (.int 77)) mNil))))]))
noncomputable def f_law_begun : List AV → Hs → R AV := mFn 2 b_law_begun
noncomputable def k_law_25 : MS := (mSeq (mIf (mTest (m2 fNe (m1 (fXfd ["NoRow"] "at") (mVar 18)) (mVar 17))) (mRet (mC (.bl false))) mNx) (mPar 9 10 (mCons (mVar 15) (mCons (mVar 16) mNil))))
noncomputable def k_law_23 : MS := (mSeq (mIf (mOr (mNot (mTru (m1 (fIsi [(.b "NoneType", false), (.b "bool", false), (.b "int", false), (.b "str", false), (.b "tuple", false), (.b "list", false), (.b "dict", false), (.c "Function", false), (.c "Book", false), (.c "Vow", false), (.c "Code", false), (.x "VowError", false), (.x "NoVow", false), (.x "NoBook", false), (.x "NoText", false), (.x "NoRow", true), (.x "NoInput", false), (.x "NoStep", false)]) (mVar 18)))) (mTru (m1 (fIsi [(.b "NoneType", false), (.b "bool", false), (.b "int", false), (.b "str", false), (.b "tuple", false), (.b "list", false), (.b "dict", false), (.c "Function", false), (.c "Book", false), (.c "Vow", false), (.c "Code", false), (.x "VowError", false), (.x "NoVow", true), (.x "NoBook", true), (.x "NoText", true), (.x "NoRow", false), (.x "NoInput", true), (.x "NoStep", true)]) (mVar 18)))) (mRet (mC (.bl false))) mNx) k_law_25)
noncomputable def k_law_22 : MS := (mSeq (mAsg (mCall 3 3 0 gAll f_law_fault (mCons (mVar 9) (mCons (mVar 13) (mCons (mVar 17) mNil))) mNil) (gNm 18)) k_law_23)
noncomputable def k_law_21 : MS := (mSeq (mAsg (mCall 2 2 0 gAll f_law_pick (mCons (mVar 1) (mCons (mLstI (mCons (mVar 4) (mCons (m2 fAdd (mVar 4) (mCall 2 2 0 gAll f_law_take (mCons (mVar 1) (mCons (mC (.int 99)) mNil)) mNil)) (mCons (m2 fSub (m2 fSub (mC (.int 0)) (mC (.int 1))) (mCall 2 2 0 gAll f_law_take (mCons (mVar 1) (mCons (mC (.int 99)) mNil)) mNil)) mNil)))) mNil)) mNil) (gNm 17)) k_law_22)
noncomputable def k_law_19 : MS := (mSeq (mIf (mOr (mNot (mTru (m1 (fIsi [(.b "NoneType", false), (.b "bool", false), (.b "int", false), (.b "str", false), (.b "tuple", false), (.b "list", false), (.b "dict", false), (.c "Function", false), (.c "Book", false), (.c "Vow", false), (.c "Code", true)]) (mVar 15)))) (mOr (mTest (m2 fNeW (mCall 1 1 0 gAll f_law_told (mCons (mVar 15) mNil) mNil) (mVar 16))) (mTest (m2 fNeW (mCall 1 1 0 gAll f_law_told (mCons (mVar 9) mNil) mNil) (mVar 10))))) (mRet (mC (.bl false))) mNx) k_law_21)
noncomputable def k_law_18 : MS := (mSeq (mAsg (m2 fAddI (m2 fAddI (mFz (mSl (m2 fIx (mVar 10) (mVar 13)) mNone (mSome (mVar 12)))) (mTup (mCons (mVar 14) mNil))) (mFz (mSl (m2 fIx (mVar 10) (mVar 13)) (mSome (m2 fAdd (mVar 12) (mC (.int 1)))) mNone))) (gLs (mVar 16) (mVar 13))) k_law_19)
noncomputable def k_law_17 : MS := (mSeq (mAsg (mBlt fList (mCons (mVar 10) mNil)) (gNm 16)) k_law_18)
noncomputable def k_law_16 : MS := (mSeq (mAsg (mIte (mTest (m2 fEq (mVar 13) (mC (.int 0)))) (mMeth "Code" "with_row" 3 2 0 gAll f_Code_with_row (mVar 9) (mCons (mVar 12) (mCons (mVar 14) mNil)) mNil) (mMeth "Code" "with_note" 3 2 0 gAll f_Code_with_note (mVar 9) (mCons (mVar 12) (mCons (mVar 14) mNil)) mNil)) (gNm 15)) k_law_17)
noncomputable def k_law_15 : MS := (mSeq (mAsg (mIte (mTest (m2 fEq (mVar 13) (mC (.int 0)))) (mCall 1 1 0 gAll f_law_row (mCons (mVar 1) mNil) mNil) (mCall 1 1 0 gAll f_law_note (mCons (mVar 1) mNil) mNil)) (gNm 14)) k_law_16)
noncomputable def k_law_14 : MS := (mSeq (mPar 12 13 (mCons (mCall 2 2 0 gAll f_law_take (mCons (mVar 1) (mCons (mVar 4) mNil)) mNil) (mCons (mCall 2 2 0 gAll f_law_take (mCons (mVar 1) (mCons (mC (.int 2)) mNil)) mNil) mNil))) k_law_15)
noncomputable def l_law_11 : MS := (mSeq (mIf (mTest (m2 fNeW (mCall 1 1 0 gAll f_law_told (mCons (mVar 9) mNil) mNil) (mVar 10))) (mRet (mC (.bl false))) mNx) k_law_14)
noncomputable def k_law_11 : MS := (mSeq (mFor (mRg1 (mC (.int 8))) (gNm 11) l_law_11) (mRet (mC (.bl true))))
noncomputable def k_law_10 : MS := (mSeq (mDrop (mBm isD fDClear (mVar 8) mNil)) k_law_11)
noncomputable def k_law_9 : MS := (mSeq (mDrop (mBm isD fDClear (mVar 7) mNil)) k_law_10)
noncomputable def k_law_8 : MS := (mSeq (mAsg (mLstI (mCons (mBlt fTuple (mCons (mVar 5) mNil)) (mCons (mBlt fTuple (mCons (mVar 6) mNil)) (mCons (mFz (mBlt fDictA (mCons (mVar 7) mNil))) (mCons (mFz (mDict [((mC (.str "fa")), (mC (.int 2)))])) (mCons (mFz (mBlt fDictA (mCons (mVar 8) mNil))) (mCons (mVar 2) (mCons (mLstI (mCons (mC (.str "fa")) mNil)) mNil)))))))) (gNm 10)) k_law_9)
noncomputable def k_law_7 : MS := (mSeq (mAsg (mFz (mMake "Code" 8 7 0 gAll f_Code___init__ (mCons (mBlt fTuple (mCons (mVar 5) mNil)) (mCons (mBlt fTuple (mCons (mVar 6) mNil)) (mCons (mVar 7) (mCons (mFz (mDict [((mC (.str "fa")), (mC (.int 2)))])) (mCons (mVar 8) (mCons (mVar 2) (mCons (mVar 3) mNil))))))) mNil)) (gNm 9)) k_law_8)
noncomputable def k_law_6 : MS := (mSeq (mPar 7 8 (mCons (mDict [((mC (.str "fa")), (mCall 2 2 0 gAll f_law_take (mCons (mVar 1) (mCons (mVar 4) mNil)) mNil))]) (mCons (mDict [((mC (.str "fa")), (mVar 2))]) mNil))) k_law_7)
noncomputable def k_law_5 : MS := (mSeq (mPar 5 6 (mCons (mFz (mLc (mRg1 (mVar 4)) (gNm 19) mYes (mCall 1 1 0 gAll f_law_row (mCons (mVar 1) mNil) mNil) [19])) (mCons (mFz (mLc (mRg1 (mVar 4)) (gNm 19) mYes (mCall 1 1 0 gAll f_law_note (mCons (mVar 1) mNil) mNil) [19])) mNil))) k_law_6)
noncomputable def k_law_4 : MS := (mSeq (mAsg (m2 fAdd (mC (.int 3)) (mCall 2 2 0 gAll f_law_take (mCons (mVar 1) (mCons (mC (.int 10)) mNil)) mNil)) (gNm 4)) k_law_5)
noncomputable def k_law_3 : MS := (mSeq (mAsg (mFz (mMake "Book" 2 1 0 gAll f_Book___init__ (mCons (mTup (mCons (mFz (mMake "Function" 6 3 1 (gP [.bl false] [.p 0, .p 1, .p 2, .p 3, .k 0, .d 0]) f_Function___init__ (mCons (mC (.str "fa")) (mCons (mTup (mCons (mC (.str "x")) (mCons (mC (.str "y")) mNil))) (mCons (mTup (mCons (mTup (mCons (mC (.str "return")) (mCons (mTup (mCons (mTup (mCons (mC (.str "box")) (mCons (mC (.str "x")) mNil))) mNil)) mNil))) mNil)) mNil))) (mCons (mC (.int 1)) mNil))) mNil)) mNil) mNil)) (gNm 3)) k_law_4)
noncomputable def k_law_2 : MS := (mSeq (mAsg (mCall 1 1 0 gAll f_law_vow (mCons (mCall 1 1 0 gAll f_law_parts (mCons (mVar 1) mNil) mNil) mNil) mNil) (gNm 2)) k_law_3)
noncomputable def b_law : MS := (mSeq (mAsg (mCall 1 1 0 gAll f_law_begun (mCons (mVar 0) mNil) mNil) (gNm 1)) k_law_2)
noncomputable def f_law : List AV → Hs → R AV := mFn 20 b_law
structure Ts (K : PySem.W.Frag) (mg : Str → Option Value) : Prop where
  n_range : mg "range" = none
  xa_at : (["NoRow"].all fun c => xfOk "at" c K) = true
  it_NoBook_NoInput_NoStep_NoText_NoVowx : isTabM [(.b "NoneType", false), (.b "bool", false), (.b "int", false), (.b "str", false), (.b "tuple", false), (.b "list", false), (.b "dict", false), (.c "Function", false), (.c "Book", false), (.c "Vow", false), (.c "Code", false), (.x "VowError", false), (.x "NoVow", true), (.x "NoBook", true), (.x "NoText", true), (.x "NoRow", false), (.x "NoInput", true), (.x "NoStep", true)] (fun K => [.ref (ga K "NoBook"), .ref (ga K "NoInput"), .ref (ga K "NoStep"), .ref (ga K "NoText"), .ref (ga K "NoVow")]) K = true
  m_NoVow : mg "NoVow" = some (.ref (ga K "NoVow"))
  m_NoText : mg "NoText" = some (.ref (ga K "NoText"))
  m_NoStep : mg "NoStep" = some (.ref (ga K "NoStep"))
  m_NoInput : mg "NoInput" = some (.ref (ga K "NoInput"))
  m_NoBook : mg "NoBook" = some (.ref (ga K "NoBook"))
  n_isinstance : mg "isinstance" = none
  m_NoRow : mg "NoRow" = some (.ref (ga K "NoRow"))
  i_NoRowx : isTabN [(.b "NoneType", false), (.b "bool", false), (.b "int", false), (.b "str", false), (.b "tuple", false), (.b "list", false), (.b "dict", false), (.c "Function", false), (.c "Book", false), (.c "Vow", false), (.c "Code", false), (.x "VowError", false), (.x "NoVow", false), (.x "NoBook", false), (.x "NoText", false), (.x "NoRow", true), (.x "NoInput", false), (.x "NoStep", false)] "NoRow" K = true
  m_Code : mg "Code" = some (.ref (ga K "Code"))
  i_Code : isTabN [(.b "NoneType", false), (.b "bool", false), (.b "int", false), (.b "str", false), (.b "tuple", false), (.b "list", false), (.b "dict", false), (.c "Function", false), (.c "Book", false), (.c "Vow", false), (.c "Code", true)] "Code" K = true
  n_list : mg "list" = none
  n_dict : mg "dict" = none
  n_tuple : mg "tuple" = none
  c_CALLEE : ∃ t, mg "CALLEE" = some (.str "callee" t)
  c_CALLER : ∃ t, mg "CALLER" = some (.str "caller" t)
  n_len : mg "len" = none
  a_clears : (["Vow"].all fun c => attrOk "clears" c K) = true
  a_up : (["Vow"].all fun c => attrOk "up" c K) = true
  a_count : (["Vow"].all fun c => attrOk "count" c K) = true
  a_link : (["Vow"].all fun c => attrOk "link" c K) = true
  a_kept : (["Vow"].all fun c => attrOk "kept" c K) = true
  a_results : (["Function", "Vow"].all fun c => attrOk "results" c K) = true
  a_handed : (["Vow"].all fun c => attrOk "handed" c K) = true
  c_REGISTERS : ∃ t, mg "REGISTERS" = some (.int 12 t)
  n_all : mg "all" = none
  c_MOST_RESULTS : ∃ t, mg "MOST_RESULTS" = some (.int 3 t)
  c_MOST_HANDED : ∃ t, mg "MOST_HANDED" = some (.int 4 t)
  a_more : (["Function"].all fun c => attrOk "more" c K) = true
  a_body : (["Function"].all fun c => attrOk "body" c K) = true
  a_params : (["Function"].all fun c => attrOk "params" c K) = true
  a_name : (["Function"].all fun c => attrOk "name" c K) = true
  a_functions : (["Book"].all fun c => attrOk "functions" c K) = true
  n_enumerate : mg "enumerate" = none
  c_LETTERS : ∃ t, mg "LETTERS" = some (.str "abcdefghijklmnopqrstuvwxyz" t)
  m_RESERVED : mg "RESERVED" = some (.ref (ga K "RESERVED"))
  t_RESERVED : conT "RESERVED" [.str "number", .str "plus", .str "less", .str "times", .str "under", .str "same", .str "ref", .str "many", .str "extra", .str "fn", .str "set", .str "say", .str "if", .str "else", .str "while", .str "call", .str "at", .str "return", .str "throw", .str "try", .str "catch", .str "end", .str "more"] K = true
  c_LONGEST : ∃ t, mg "LONGEST" = some (.int 8 t)
  m_SUMS : mg "SUMS" = some (.ref (ga K "SUMS"))
  t_SUMS : conT "SUMS" [.str "plus", .str "less", .str "times", .str "under", .str "same"] K = true
  a_leads : (["Code"].all fun c => attrOk "leads" c K) = true
  a_thunks : (["Code"].all fun c => attrOk "thunks" c K) = true
  a_entries : (["Code"].all fun c => attrOk "entries" c K) = true
  a_book : (["Code"].all fun c => attrOk "book" c K) = true
  a_common : (["Code"].all fun c => attrOk "common" c K) = true
  a_vows : (["Code"].all fun c => attrOk "vows" c K) = true
  a_notes : (["Code"].all fun c => attrOk "notes" c K) = true
  a_rows : (["Code"].all fun c => attrOk "rows" c K) = true
  n_sorted : mg "sorted" = none
  x_law_fault_2 : exTab [] [(("VowError", "NoRow"), false), (("NoVow", "NoRow"), false), (("NoBook", "NoRow"), false), (("NoText", "NoRow"), false), (("NoRow", "NoRow"), true), (("NoInput", "NoRow"), false), (("NoStep", "NoRow"), false)] K = true
  xi_NoVow : XC K (ga K "NoVow") ∧ PySem.W.findIn K (.ref (ga K "NoVow")) "__init__" = some (some (.ref (He.ma K (ga K "NoVow") "__init__"))) ∧ PySem.W.typeIn K (.ref (He.ma K (ga K "NoVow") "__init__")) = some (.type "function")
  xn_NoVow : noAt K (ga K "NoVow") [("name", 1)] = true
  xi_NoBook : XC K (ga K "NoBook") ∧ PySem.W.findIn K (.ref (ga K "NoBook")) "__init__" = some (some (.ref (He.ma K (ga K "NoBook") "__init__"))) ∧ PySem.W.typeIn K (.ref (He.ma K (ga K "NoBook") "__init__")) = some (.type "function")
  xn_NoBook : noAt K (ga K "NoBook") [("name", 1), ("word", 2)] = true
  xi_NoRow : XC K (ga K "NoRow") ∧ PySem.W.findIn K (.ref (ga K "NoRow")) "__init__" = some (some (.ref (He.ma K (ga K "NoRow") "__init__"))) ∧ PySem.W.typeIn K (.ref (He.ma K (ga K "NoRow") "__init__")) = some (.type "function")
  xn_NoRow : noAt K (ga K "NoRow") [("at", 1)] = true
  m_leads_of : mg "leads_of" = some (.ref (ga K "leads_of"))
  k_Code : Mk K (ga K "Code") (He.ma K (ga K "Code") "__init__")
  cl_Code : Cls K (ga K "Code")
  mt_Code_need_row : Meth K (ga K "Code") "need_row" (He.ma K (ga K "Code") "need_row")
  mt_Code_with_row : Meth K (ga K "Code") "with_row" (He.ma K (ga K "Code") "with_row")
  mt_Code_with_note : Meth K (ga K "Code") "with_note" (He.ma K (ga K "Code") "with_note")
  m_law_fault : mg "_law_fault" = some (.ref (ga K "_law_fault"))
  m_law_take : mg "_law_take" = some (.ref (ga K "_law_take"))
  m_law_pick : mg "_law_pick" = some (.ref (ga K "_law_pick"))
  m_law_told : mg "_law_told" = some (.ref (ga K "_law_told"))
  m_law_place : mg "_law_place" = some (.ref (ga K "_law_place"))
  m_law_row : mg "_law_row" = some (.ref (ga K "_law_row"))
  m_law_note : mg "_law_note" = some (.ref (ga K "_law_note"))
  m_bodies_of : mg "bodies_of" = some (.ref (ga K "bodies_of"))
  m_statements_of : mg "statements_of" = some (.ref (ga K "statements_of"))
  m_takes : mg "takes" = some (.ref (ga K "takes"))
  m_call_is_wrong : mg "call_is_wrong" = some (.ref (ga K "call_is_wrong"))
  m_given_by : mg "given_by" = some (.ref (ga K "given_by"))
  m_parts_of : mg "parts_of" = some (.ref (ga K "parts_of"))
  m_all_within : mg "all_within" = some (.ref (ga K "all_within"))
  m_expressions_of : mg "expressions_of" = some (.ref (ga K "expressions_of"))
  m_boxes_read : mg "boxes_read" = some (.ref (ga K "boxes_read"))
  m_is_name : mg "is_name" = some (.ref (ga K "is_name"))
  m_wrong_in : mg "wrong_in" = some (.ref (ga K "wrong_in"))
  m_look_at : mg "look_at" = some (.ref (ga K "look_at"))
  m_Book : mg "Book" = some (.ref (ga K "Book"))
  k_Book : Mk K (ga K "Book") (He.ma K (ga K "Book") "__init__")
  m_Function : mg "Function" = some (.ref (ga K "Function"))
  k_Function : Mk K (ga K "Function") (He.ma K (ga K "Function") "__init__")
  kt_Vow___init___handed : tuA (kwAt ("Vow", some "__init__") "handed") [] K = true
  kt_Vow___init___results : tuA (kwAt ("Vow", some "__init__") "results") [.int 0, .int 1, .int 2] K = true
  kt_Vow___init___kept : tuA (kwAt ("Vow", some "__init__") "kept") [] K = true
  m_Vow : mg "Vow" = some (.ref (ga K "Vow"))
  k_Vow : Mk K (ga K "Vow") (He.ma K (ga K "Vow") "__init__")
  m_law_vow : mg "_law_vow" = some (.ref (ga K "_law_vow"))
  m_law_parts : mg "_law_parts" = some (.ref (ga K "_law_parts"))
  m_law_begun : mg "_law_begun" = some (.ref (ga K "_law_begun"))
  m_law : mg "law" = some (.ref (ga K "law"))
  d_leads_of : ∃ fd, FunD K D_leads_of.name D_leads_of.qual D_leads_of.params D_leads_of.body D_leads_of.scope (D_leads_of.dvs K) (D_leads_of.kws K) (He.fAd K D_leads_of.at_) fd
  d_Code___init__ : ∃ fd, FunD K D_Code___init__.name D_Code___init__.qual D_Code___init__.params D_Code___init__.body D_Code___init__.scope (D_Code___init__.dvs K) (D_Code___init__.kws K) (He.fAd K D_Code___init__.at_) fd
  d_Code_need_row : ∃ fd, FunD K D_Code_need_row.name D_Code_need_row.qual D_Code_need_row.params D_Code_need_row.body D_Code_need_row.scope (D_Code_need_row.dvs K) (D_Code_need_row.kws K) (He.fAd K D_Code_need_row.at_) fd
  d_Code_with_row : ∃ fd, FunD K D_Code_with_row.name D_Code_with_row.qual D_Code_with_row.params D_Code_with_row.body D_Code_with_row.scope (D_Code_with_row.dvs K) (D_Code_with_row.kws K) (He.fAd K D_Code_with_row.at_) fd
  d_Code_with_note : ∃ fd, FunD K D_Code_with_note.name D_Code_with_note.qual D_Code_with_note.params D_Code_with_note.body D_Code_with_note.scope (D_Code_with_note.dvs K) (D_Code_with_note.kws K) (He.fAd K D_Code_with_note.at_) fd
  d_law_fault : ∃ fd, FunD K D_law_fault.name D_law_fault.qual D_law_fault.params D_law_fault.body D_law_fault.scope (D_law_fault.dvs K) (D_law_fault.kws K) (He.fAd K D_law_fault.at_) fd
  d_law_take : ∃ fd, FunD K D_law_take.name D_law_take.qual D_law_take.params D_law_take.body D_law_take.scope (D_law_take.dvs K) (D_law_take.kws K) (He.fAd K D_law_take.at_) fd
  d_law_pick : ∃ fd, FunD K D_law_pick.name D_law_pick.qual D_law_pick.params D_law_pick.body D_law_pick.scope (D_law_pick.dvs K) (D_law_pick.kws K) (He.fAd K D_law_pick.at_) fd
  d_law_told : ∃ fd, FunD K D_law_told.name D_law_told.qual D_law_told.params D_law_told.body D_law_told.scope (D_law_told.dvs K) (D_law_told.kws K) (He.fAd K D_law_told.at_) fd
  d_law_place : ∃ fd, FunD K D_law_place.name D_law_place.qual D_law_place.params D_law_place.body D_law_place.scope (D_law_place.dvs K) (D_law_place.kws K) (He.fAd K D_law_place.at_) fd
  d_law_row : ∃ fd, FunD K D_law_row.name D_law_row.qual D_law_row.params D_law_row.body D_law_row.scope (D_law_row.dvs K) (D_law_row.kws K) (He.fAd K D_law_row.at_) fd
  d_law_note : ∃ fd, FunD K D_law_note.name D_law_note.qual D_law_note.params D_law_note.body D_law_note.scope (D_law_note.dvs K) (D_law_note.kws K) (He.fAd K D_law_note.at_) fd
  d_bodies_of : ∃ fd, FunD K D_bodies_of.name D_bodies_of.qual D_bodies_of.params D_bodies_of.body D_bodies_of.scope (D_bodies_of.dvs K) (D_bodies_of.kws K) (He.fAd K D_bodies_of.at_) fd
  d_statements_of : ∃ fd, FunD K D_statements_of.name D_statements_of.qual D_statements_of.params D_statements_of.body D_statements_of.scope (D_statements_of.dvs K) (D_statements_of.kws K) (He.fAd K D_statements_of.at_) fd
  d_takes : ∃ fd, FunD K D_takes.name D_takes.qual D_takes.params D_takes.body D_takes.scope (D_takes.dvs K) (D_takes.kws K) (He.fAd K D_takes.at_) fd
  d_call_is_wrong : ∃ fd, FunD K D_call_is_wrong.name D_call_is_wrong.qual D_call_is_wrong.params D_call_is_wrong.body D_call_is_wrong.scope (D_call_is_wrong.dvs K) (D_call_is_wrong.kws K) (He.fAd K D_call_is_wrong.at_) fd
  d_given_by : ∃ fd, FunD K D_given_by.name D_given_by.qual D_given_by.params D_given_by.body D_given_by.scope (D_given_by.dvs K) (D_given_by.kws K) (He.fAd K D_given_by.at_) fd
  d_parts_of : ∃ fd, FunD K D_parts_of.name D_parts_of.qual D_parts_of.params D_parts_of.body D_parts_of.scope (D_parts_of.dvs K) (D_parts_of.kws K) (He.fAd K D_parts_of.at_) fd
  d_all_within : ∃ fd, FunD K D_all_within.name D_all_within.qual D_all_within.params D_all_within.body D_all_within.scope (D_all_within.dvs K) (D_all_within.kws K) (He.fAd K D_all_within.at_) fd
  d_expressions_of : ∃ fd, FunD K D_expressions_of.name D_expressions_of.qual D_expressions_of.params D_expressions_of.body D_expressions_of.scope (D_expressions_of.dvs K) (D_expressions_of.kws K) (He.fAd K D_expressions_of.at_) fd
  d_boxes_read : ∃ fd, FunD K D_boxes_read.name D_boxes_read.qual D_boxes_read.params D_boxes_read.body D_boxes_read.scope (D_boxes_read.dvs K) (D_boxes_read.kws K) (He.fAd K D_boxes_read.at_) fd
  d_is_name : ∃ fd, FunD K D_is_name.name D_is_name.qual D_is_name.params D_is_name.body D_is_name.scope (D_is_name.dvs K) (D_is_name.kws K) (He.fAd K D_is_name.at_) fd
  d_wrong_in : ∃ fd, FunD K D_wrong_in.name D_wrong_in.qual D_wrong_in.params D_wrong_in.body D_wrong_in.scope (D_wrong_in.dvs K) (D_wrong_in.kws K) (He.fAd K D_wrong_in.at_) fd
  d_look_at : ∃ fd, FunD K D_look_at.name D_look_at.qual D_look_at.params D_look_at.body D_look_at.scope (D_look_at.dvs K) (D_look_at.kws K) (He.fAd K D_look_at.at_) fd
  d_Book___init__ : ∃ fd, FunD K D_Book___init__.name D_Book___init__.qual D_Book___init__.params D_Book___init__.body D_Book___init__.scope (D_Book___init__.dvs K) (D_Book___init__.kws K) (He.fAd K D_Book___init__.at_) fd
  d_Function___init__ : ∃ fd, FunD K D_Function___init__.name D_Function___init__.qual D_Function___init__.params D_Function___init__.body D_Function___init__.scope (D_Function___init__.dvs K) (D_Function___init__.kws K) (He.fAd K D_Function___init__.at_) fd
  d_Vow___init__ : ∃ fd, FunD K D_Vow___init__.name D_Vow___init__.qual D_Vow___init__.params D_Vow___init__.body D_Vow___init__.scope (D_Vow___init__.dvs K) (D_Vow___init__.kws K) (He.fAd K D_Vow___init__.at_) fd
  d_law_vow : ∃ fd, FunD K D_law_vow.name D_law_vow.qual D_law_vow.params D_law_vow.body D_law_vow.scope (D_law_vow.dvs K) (D_law_vow.kws K) (He.fAd K D_law_vow.at_) fd
  d_law_parts : ∃ fd, FunD K D_law_parts.name D_law_parts.qual D_law_parts.params D_law_parts.body D_law_parts.scope (D_law_parts.dvs K) (D_law_parts.kws K) (He.fAd K D_law_parts.at_) fd
  d_law_begun : ∃ fd, FunD K D_law_begun.name D_law_begun.qual D_law_begun.params D_law_begun.body D_law_begun.scope (D_law_begun.dvs K) (D_law_begun.kws K) (He.fAd K D_law_begun.at_) fd
  d_law : ∃ fd, FunD K D_law.name D_law.qual D_law.params D_law.body D_law.scope (D_law.dvs K) (D_law.kws K) (He.fAd K D_law.at_) fd
  d_xNoVow : ∃ fd, FunD K D_xNoVow.name D_xNoVow.qual D_xNoVow.params D_xNoVow.body D_xNoVow.scope (D_xNoVow.dvs K) (D_xNoVow.kws K) (He.fAd K D_xNoVow.at_) fd
  d_xNoBook : ∃ fd, FunD K D_xNoBook.name D_xNoBook.qual D_xNoBook.params D_xNoBook.body D_xNoBook.scope (D_xNoBook.dvs K) (D_xNoBook.kws K) (He.fAd K D_xNoBook.at_) fd
  d_xNoRow : ∃ fd, FunD K D_xNoRow.name D_xNoRow.qual D_xNoRow.params D_xNoRow.body D_xNoRow.scope (D_xNoRow.dvs K) (D_xNoRow.kws K) (He.fAd K D_xNoRow.at_) fd
def fx : List Fx := [free "range", (fun K => ["NoRow"].all fun c => xfOk "at" c K), isTabM [(.b "NoneType", false), (.b "bool", false), (.b "int", false), (.b "str", false), (.b "tuple", false), (.b "list", false), (.b "dict", false), (.c "Function", false), (.c "Book", false), (.c "Vow", false), (.c "Code", false), (.x "VowError", false), (.x "NoVow", true), (.x "NoBook", true), (.x "NoText", true), (.x "NoRow", false), (.x "NoInput", true), (.x "NoStep", true)] (fun K => [.ref (ga K "NoBook"), .ref (ga K "NoInput"), .ref (ga K "NoStep"), .ref (ga K "NoText"), .ref (ga K "NoVow")]), glo "NoVow", glo "NoText", glo "NoStep", glo "NoInput", glo "NoBook", free "isinstance", glo "NoRow", isTabN [(.b "NoneType", false), (.b "bool", false), (.b "int", false), (.b "str", false), (.b "tuple", false), (.b "list", false), (.b "dict", false), (.c "Function", false), (.c "Book", false), (.c "Vow", false), (.c "Code", false), (.x "VowError", false), (.x "NoVow", false), (.x "NoBook", false), (.x "NoText", false), (.x "NoRow", true), (.x "NoInput", false), (.x "NoStep", false)] "NoRow", glo "Code", isTabN [(.b "NoneType", false), (.b "bool", false), (.b "int", false), (.b "str", false), (.b "tuple", false), (.b "list", false), (.b "dict", false), (.c "Function", false), (.c "Book", false), (.c "Vow", false), (.c "Code", true)] "Code", free "list", free "dict", free "tuple", conS "CALLEE" "callee", conS "CALLER" "caller", free "len", (fun K => ["Vow"].all fun c => attrOk "clears" c K), (fun K => ["Vow"].all fun c => attrOk "up" c K), (fun K => ["Vow"].all fun c => attrOk "count" c K), (fun K => ["Vow"].all fun c => attrOk "link" c K), (fun K => ["Vow"].all fun c => attrOk "kept" c K), (fun K => ["Function", "Vow"].all fun c => attrOk "results" c K), (fun K => ["Vow"].all fun c => attrOk "handed" c K), conI "REGISTERS" 12, free "all", conI "MOST_RESULTS" 3, conI "MOST_HANDED" 4, (fun K => ["Function"].all fun c => attrOk "more" c K), (fun K => ["Function"].all fun c => attrOk "body" c K), (fun K => ["Function"].all fun c => attrOk "params" c K), (fun K => ["Function"].all fun c => attrOk "name" c K), (fun K => ["Book"].all fun c => attrOk "functions" c K), free "enumerate", conS "LETTERS" "abcdefghijklmnopqrstuvwxyz", glo "RESERVED", conT "RESERVED" [.str "number", .str "plus", .str "less", .str "times", .str "under", .str "same", .str "ref", .str "many", .str "extra", .str "fn", .str "set", .str "say", .str "if", .str "else", .str "while", .str "call", .str "at", .str "return", .str "throw", .str "try", .str "catch", .str "end", .str "more"], conI "LONGEST" 8, glo "SUMS", conT "SUMS" [.str "plus", .str "less", .str "times", .str "under", .str "same"], (fun K => ["Code"].all fun c => attrOk "leads" c K), (fun K => ["Code"].all fun c => attrOk "thunks" c K), (fun K => ["Code"].all fun c => attrOk "entries" c K), (fun K => ["Code"].all fun c => attrOk "book" c K), (fun K => ["Code"].all fun c => attrOk "common" c K), (fun K => ["Code"].all fun c => attrOk "vows" c K), (fun K => ["Code"].all fun c => attrOk "notes" c K), (fun K => ["Code"].all fun c => attrOk "rows" c K), free "sorted", exTab [] [(("VowError", "NoRow"), false), (("NoVow", "NoRow"), false), (("NoBook", "NoRow"), false), (("NoText", "NoRow"), false), (("NoRow", "NoRow"), true), (("NoInput", "NoRow"), false), (("NoStep", "NoRow"), false)], xiB "NoVow", (fun K => noAt K (ga K "NoVow") [("name", 1)]), xiB "NoBook", (fun K => noAt K (ga K "NoBook") [("name", 1), ("word", 2)]), xiB "NoRow", (fun K => noAt K (ga K "NoRow") [("at", 1)]), glo "leads_of", (fun K => (He.Fa.mkr "Code").ok K), (fun K => (He.Fa.cls "Code").ok K), (fun K => (He.Fa.meth "Code" "need_row").ok K), (fun K => (He.Fa.meth "Code" "with_row").ok K), (fun K => (He.Fa.meth "Code" "with_note").ok K), glo "_law_fault", glo "_law_take", glo "_law_pick", glo "_law_told", glo "_law_place", glo "_law_row", glo "_law_note", glo "bodies_of", glo "statements_of", glo "takes", glo "call_is_wrong", glo "given_by", glo "parts_of", glo "all_within", glo "expressions_of", glo "boxes_read", glo "is_name", glo "wrong_in", glo "look_at", glo "Book", (fun K => (He.Fa.mkr "Book").ok K), glo "Function", (fun K => (He.Fa.mkr "Function").ok K), tuA (kwAt ("Vow", some "__init__") "handed") [], tuA (kwAt ("Vow", some "__init__") "results") [.int 0, .int 1, .int 2], tuA (kwAt ("Vow", some "__init__") "kept") [], glo "Vow", (fun K => (He.Fa.mkr "Vow").ok K), glo "_law_vow", glo "_law_parts", glo "_law_begun", glo "law"]
def fn : List He.DefD := [D_leads_of, D_Code___init__, D_Code_need_row, D_Code_with_row, D_Code_with_note, D_law_fault, D_law_take, D_law_pick, D_law_told, D_law_place, D_law_row, D_law_note, D_bodies_of, D_statements_of, D_takes, D_call_is_wrong, D_given_by, D_parts_of, D_all_within, D_expressions_of, D_boxes_read, D_is_name, D_wrong_in, D_look_at, D_Book___init__, D_Function___init__, D_Vow___init__, D_law_vow, D_law_parts, D_law_begun, D_law, D_xNoVow, D_xNoBook, D_xNoRow]
abbrev RowX : PySem.W.OpenRow := PySem.W.OpenLaw.row PySem.Challenge.rw_callvows_k76_codes_exchanged
abbrev hk : PySem.W.Hook := hkY 6 fx fn
def ob (s : PySem.W.SharedT) : He.AlD := lookY 6 fx fn (HandSHeadRun.getT s)
theorem ob_eq (s : PySem.W.SharedT) : ob s = hk.obs s.abs := lookY_eq (HandSHeadRun.getT_eq s)
def loose : List PySem.Str := (["_wall", "VowError", "NoVow", "NoBook", "NoText", "NoRow", "NoInput", "NoStep", "RESERVED", "LETTERS", "LONGEST", "SUMS", "is_name", "Function", "takes", "parts_of", "all_within", "expressions_of", "given_by", "bodies_of", "statements_of", "boxes_read", "call_is_wrong", "wrong_in", "look_at", "Book", "REGISTERS", "CALLER", "CALLEE", "MOST_HANDED"] : List PySem.Str) ++ (["MOST_RESULTS", "Vow", "leads_of", "Code", "_law_begun", "_law_take", "_law_pick", "_law_parts", "_law_vow", "_law_place", "_law_row", "_law_note", "_law_told", "_law_fault"] : List PySem.Str)
theorem run (w : World) : HandSHeadRun.RunEq RowX (PySem.W.view RowX.prog [49]) hk ob 5500 loose w := by
  intro os
  kernel_rfl
section
variable {P : Program} {w : World} {K : PySem.W.Frag} {mg : Str → Option Value} {base : Heap}
theorem Ts.of (t : Told fx fn K) (m : Mg K mg) : Ts K mg := ⟨m.free (t.f_ 0), t.f_ 1, t.f_ 2, m.glo (t.f_ 3), m.glo (t.f_ 4), m.glo (t.f_ 5), m.glo (t.f_ 6), m.glo (t.f_ 7), m.free (t.f_ 8), m.glo (t.f_ 9), t.f_ 10, m.glo (t.f_ 11), t.f_ 12, m.free (t.f_ 13), m.free (t.f_ 14), m.free (t.f_ 15), m.str (t.f_ 16), m.str (t.f_ 17), m.free (t.f_ 18), t.f_ 19, t.f_ 20, t.f_ 21, t.f_ 22, t.f_ 23, t.f_ 24, t.f_ 25, m.int (t.f_ 26), m.free (t.f_ 27), m.int (t.f_ 28), m.int (t.f_ 29), t.f_ 30, t.f_ 31, t.f_ 32, t.f_ 33, t.f_ 34, m.free (t.f_ 35), m.str (t.f_ 36), m.glo (t.f_ 37), t.f_ 38, m.int (t.f_ 39), m.glo (t.f_ 40), t.f_ 41, t.f_ 42, t.f_ 43, t.f_ 44, t.f_ 45, t.f_ 46, t.f_ 47, t.f_ 48, t.f_ 49, m.free (t.f_ 50), t.f_ 51, xiB_ok (t.f_ 52), t.f_ 53, xiB_ok (t.f_ 54), t.f_ 55, xiB_ok (t.f_ 56), t.f_ 57, m.glo (t.f_ 58), He.mkr_ok (t.f_ 59), He.cls_ok (t.f_ 60), He.meth_ok (t.f_ 61), He.meth_ok (t.f_ 62), He.meth_ok (t.f_ 63), m.glo (t.f_ 64), m.glo (t.f_ 65), m.glo (t.f_ 66), m.glo (t.f_ 67), m.glo (t.f_ 68), m.glo (t.f_ 69), m.glo (t.f_ 70), m.glo (t.f_ 71), m.glo (t.f_ 72), m.glo (t.f_ 73), m.glo (t.f_ 74), m.glo (t.f_ 75), m.glo (t.f_ 76), m.glo (t.f_ 77), m.glo (t.f_ 78), m.glo (t.f_ 79), m.glo (t.f_ 80), m.glo (t.f_ 81), m.glo (t.f_ 82), m.glo (t.f_ 83), He.mkr_ok (t.f_ 84), m.glo (t.f_ 85), He.mkr_ok (t.f_ 86), t.f_ 87, t.f_ 88, t.f_ 89, m.glo (t.f_ 90), He.mkr_ok (t.f_ 91), m.glo (t.f_ 92), m.glo (t.f_ 93), m.glo (t.f_ 94), m.glo (t.f_ 95), t.d_ (d := D_leads_of) 0, t.d_ (d := D_Code___init__) 1, t.d_ (d := D_Code_need_row) 2, t.d_ (d := D_Code_with_row) 3, t.d_ (d := D_Code_with_note) 4, t.d_ (d := D_law_fault) 5, t.d_ (d := D_law_take) 6, t.d_ (d := D_law_pick) 7, t.d_ (d := D_law_told) 8, t.d_ (d := D_law_place) 9, t.d_ (d := D_law_row) 10, t.d_ (d := D_law_note) 11, t.d_ (d := D_bodies_of) 12, t.d_ (d := D_statements_of) 13, t.d_ (d := D_takes) 14, t.d_ (d := D_call_is_wrong) 15, t.d_ (d := D_given_by) 16, t.d_ (d := D_parts_of) 17, t.d_ (d := D_all_within) 18, t.d_ (d := D_expressions_of) 19, t.d_ (d := D_boxes_read) 20, t.d_ (d := D_is_name) 21, t.d_ (d := D_wrong_in) 22, t.d_ (d := D_look_at) 23, t.d_ (d := D_Book___init__) 24, t.d_ (d := D_Function___init__) 25, t.d_ (d := D_Vow___init__) 26, t.d_ (d := D_law_vow) 27, t.d_ (d := D_law_parts) 28, t.d_ (d := D_law_begun) 29, t.d_ (d := D_law) 30, t.d_ (d := D_xNoVow) 31, t.d_ (d := D_xNoBook) 32, t.d_ (d := D_xNoRow) 33⟩
theorem okx_NoVow (T : Ts K mg) : Xk P w K mg base 1 "NoVow" 2 [("name", 1)] := by
  obtain ⟨fd, F⟩ := T.d_xNoVow
  have F : FunD K "__init__" "NoVow.__init__" (defArgs s_xNoVow) (defBody s_xNoVow) (defScope s_xNoVow) [] [] (He.ma K (ga K "NoVow") "__init__") fd := F
  exact (xk_mk (ps := ["self", "name"]) T.m_NoVow T.xi_NoVow T.xn_NoVow F sc_xNoVow (by decide) (by decide) (fun cdv A outer s H E => (.cons (pv 0) (pv 1) .nil)) (fun _ _ _ _ _ _ us hl => match us, hl with | [_, _], _ => rfl) : Xk P w K mg base (0 + 1) "NoVow" ["self", "name"].length [("name", 1)])
theorem okx_NoBook (T : Ts K mg) : Xk P w K mg base 1 "NoBook" 3 [("name", 1), ("word", 2)] := by
  obtain ⟨fd, F⟩ := T.d_xNoBook
  have F : FunD K "__init__" "NoBook.__init__" (defArgs s_xNoBook) (defBody s_xNoBook) (defScope s_xNoBook) [] [] (He.ma K (ga K "NoBook") "__init__") fd := F
  exact (xk_mk (ps := ["self", "name", "word"]) T.m_NoBook T.xi_NoBook T.xn_NoBook F sc_xNoBook (by decide) (by decide) (fun cdv A outer s H E => (.cons (pv 0) (pv 1) (.cons (pv 0) (pv 2) .nil))) (fun _ _ _ _ _ _ us hl => match us, hl with | [_, _, _], _ => rfl) : Xk P w K mg base (0 + 1) "NoBook" ["self", "name", "word"].length [("name", 1), ("word", 2)])
theorem okx_NoRow (T : Ts K mg) : Xk P w K mg base 1 "NoRow" 2 [("at", 1)] := by
  obtain ⟨fd, F⟩ := T.d_xNoRow
  have F : FunD K "__init__" "NoRow.__init__" (defArgs s_xNoRow) (defBody s_xNoRow) (defScope s_xNoRow) [] [] (He.ma K (ga K "NoRow") "__init__") fd := F
  exact (xk_mk (ps := ["self", "at"]) T.m_NoRow T.xi_NoRow T.xn_NoRow F sc_xNoRow (by decide) (by decide) (fun cdv A outer s H E => (.cons (pv 0) (pv 1) .nil)) (fun _ _ _ _ _ _ us hl => match us, hl with | [_, _], _ => rfl) : Xk P w K mg base (0 + 1) "NoRow" ["self", "at"].length [("at", 1)])
theorem ok_leads_of (T : Ts K mg) : Fk P w K mg base 1 "leads_of" ["entries", "thunks"] f_leads_of [(2, [], gAll)] := by
  obtain ⟨fd, F⟩ := T.d_leads_of
  have F : FunD K "leads_of" "leads_of" (defArgs s_leads_of) (defBody s_leads_of) (defScope s_leads_of) [] [] (ga K "leads_of") fd := F
  refine ⟨T.m_leads_of, F.kp, fd, fn_body F sc_leads_of fun cdv A outer s H E hr tk => ?_, ?_⟩
  · exact (sss_cons (ss_setLcItN (j := 2) (S := [3, 4]) (own := [("name", 3), ("row", 4)]) rfl sc_leads_of.nd rfl rfl (by exact sw_true rfl rfl rfl rfl) (pv 0) (blk_of (N := N_leads_of) (sc := (defScope s_leads_of)) (by decide +kernel)) (by decide) (fun _ _ _ _ _ => by exact (sg_tup rfl (sgs_cons (sg_name (i := 3) sc_leads_of.nd rfl (by first | exact Or.inl rfl | exact Or.inr rfl)) (sgs_cons (sg_name (i := 4) sc_leads_of.nd rfl (by first | exact Or.inl rfl | exact Or.inr rfl)) sgs_nil)))) (fun _ _ _ _ _ => by exact sts_nil) (fun _ _ _ _ _ => by exact (se_tup (sa_cons (se_var (pv 4)) (sa_cons (se_var (pv 3)) (sa_cons se_bl sa_nil))))))
  (sss_cons (ss_expr (se_bm tyM_l opM_extA PySem.F.plainAttrs_list PySem.F.slot_list_extend PySem.F.type_list_extend mt_extend (se_var (pv 2)) (sa_cons (se_lcItI (S := [3, 4]) (own := [("name", 3), ("row", 4)]) rfl sc_leads_of.nd (pv 1) (blk_of (N := N_leads_of) (sc := (defScope s_leads_of)) (by decide +kernel)) (by decide) (fun _ _ _ _ _ => by exact (sg_tup rfl (sgs_cons (sg_name (i := 3) sc_leads_of.nd rfl (by first | exact Or.inl rfl | exact Or.inr rfl)) (sgs_cons (sg_name (i := 4) sc_leads_of.nd rfl (by first | exact Or.inl rfl | exact Or.inr rfl)) sgs_nil)))) (fun _ _ _ _ _ => by exact sts_nil) (fun _ _ _ _ _ => by exact (se_tup (sa_cons (se_var (pv 4)) (sa_cons (se_var (pv 3)) (sa_cons se_bl sa_nil)))))) sa_nil)))
  (sss_one (ss_ret (se_blt cr_sortT3 opN_sort3I (by exact rfl) T.n_sorted bo_sorted (sa_cons (se_var (pv 2)) sa_nil))))))
  · refine shs_all ⟨?_, trivial⟩
    · exact sh_all (F.bindsN fun _ _ _ _ _ _ us hl => match us, hl with | [_, _], _ => rfl) rfl
theorem ok_Code___init__ (T : Ts K mg) : Ck P w K mg base 2 "Code" ["self", "rows", "notes", "entries", "thunks", "vows", "common", "book"] f_Code___init__ [(7, [], gAll)] := by
  have G_leads_of : Fk P w K mg base 1 "leads_of" _ f_leads_of _ := ok_leads_of T
  obtain ⟨fd, F⟩ := T.d_Code___init__
  have F : FunD K "__init__" "Code.__init__" (defArgs s_Code___init__) (defBody s_Code___init__) (defScope s_Code___init__) [] [] (He.ma K (ga K "Code") "__init__") fd := F
  refine ⟨T.m_Code, T.k_Code, fd, fn_body F sc_Code___init__ fun cdv A outer s H E hr tk => ?_, ?_⟩
  · exact (sss_cons (ss_fld ["Code"] T.a_rows (se_var (pv 0)) (se_blty call_tuple_of opN_tuple (by exact rfl) T.n_tuple bo_tuple (sa_cons (se_var (pv 1)) sa_nil)) rfl)
  (sss_cons (ss_fld ["Code"] T.a_notes (se_var (pv 0)) (se_blty call_tuple_of opN_tuple (by exact rfl) T.n_tuple bo_tuple (sa_cons (se_var (pv 2)) sa_nil)) rfl)
  (sss_cons (ss_fld ["Code"] T.a_entries (se_var (pv 0)) (se_fz (se_blty (call_dictA rfl) opN_dictA (by exact rfl) T.n_dict bo_dict (sa_cons (se_var (pv 3)) sa_nil))) rfl)
  (sss_cons (ss_fld ["Code"] T.a_thunks (se_var (pv 0)) (se_fz (se_blty (call_dictA rfl) opN_dictA (by exact rfl) T.n_dict bo_dict (sa_cons (se_var (pv 4)) sa_nil))) rfl)
  (sss_cons (ss_fld ["Code"] T.a_vows (se_var (pv 0)) (se_fz (se_blty (call_dictA rfl) opN_dictA (by exact rfl) T.n_dict bo_dict (sa_cons (se_var (pv 5)) sa_nil))) rfl)
  (sss_cons (ss_fld ["Code"] T.a_common (se_var (pv 0)) (se_var (pv 6)) rfl)
  (sss_cons (ss_fld ["Code"] T.a_book (se_var (pv 0)) (se_var (pv 7)) rfl)
  (sss_one (ss_fld ["Code"] T.a_leads (se_var (pv 0)) (se_fk (ps := ["entries", "thunks"]) G_leads_of 0 (hr.mono (by decide)) tk (by exact rfl) (sa_cons (se_fld ["Code"] T.a_entries (se_var (pv 0)) rfl) (sa_cons (se_fld ["Code"] T.a_thunks (se_var (pv 0)) rfl) sa_nil))) rfl)))))))))
  · refine shs_all1 ⟨?_, trivial⟩
    · exact sh_all (F.bindsN fun _ _ _ _ _ _ us hl => match us, hl with | [_, _, _, _, _, _, _, _], _ => rfl) rfl
theorem ok_Code_need_row (T : Ts K mg) : Tk P w K mg base 3 "Code" "need_row" ["self", "at"] f_Code_need_row [(1, [], gAll)] := by
  have X_NoRow : Xk P w K mg base 1 "NoRow" 2 [("at", 1)] := okx_NoRow T
  obtain ⟨fd, F⟩ := T.d_Code_need_row
  have F : FunD K "need_row" "Code.need_row" (defArgs s_Code_need_row) (defBody s_Code_need_row) (defScope s_Code_need_row) [] [] (He.ma K (ga K "Code") "need_row") fd := F
  refine ⟨T.cl_Code, T.mt_Code_need_row, fd, fn_body F sc_Code_need_row fun cdv A outer s H E hr tk => ?_, ?_⟩
  · exact (sss_one (ss_if (sw_t (sw_or (st_cmp op_lt op2_cmpI (se_var (pv 1)) se_int rfl) (sw_or1 (st_cmp op_ge op2_cmpI (se_var (pv 1)) (se_blt op_lenA opN_len (by exact rfl) T.n_len bo_len (sa_cons (se_fld ["Code"] T.a_rows (se_var (pv 0)) rfl) sa_nil)) rfl)))) (sss_one (ss_raise X_NoRow (hr.mono (by decide)) rfl tk (by exact rfl) (sa_cons (se_var (pv 1)) sa_nil))) sss_nil))
  · refine shs_all1 ⟨?_, trivial⟩
    · exact sh_all (F.bindsN fun _ _ _ _ _ _ us hl => match us, hl with | [_, _], _ => rfl) rfl
theorem ok_Code_with_row (T : Ts K mg) : Tk P w K mg base 4 "Code" "with_row" ["self", "at", "row"] f_Code_with_row [(2, [], gAll)] := by
  have C_Code : Ck P w K mg base 2 "Code" _ f_Code___init__ _ := ok_Code___init__ T
  have M_Code_need_row : Tk P w K mg base 3 "Code" "need_row" _ f_Code_need_row _ := ok_Code_need_row T
  obtain ⟨fd, F⟩ := T.d_Code_with_row
  have F : FunD K "with_row" "Code.with_row" (defArgs s_Code_with_row) (defBody s_Code_with_row) (defScope s_Code_with_row) [] [] (He.ma K (ga K "Code") "with_row") fd := F
  refine ⟨T.cl_Code, T.mt_Code_with_row, fd, fn_body F sc_Code_with_row fun cdv A outer s H E hr tk => ?_, ?_⟩
  · exact (sss_cons (ss_expr (se_mt (ps := ["self", "at"]) M_Code_need_row 0 (hr.mono (by decide)) tk (se_var (pv 0)) (sa_cons (se_var (pv 1)) sa_nil)))
  (sss_cons (ss_set (i := 3) sc_Code_with_row.nd rfl (by first | exact Or.inl rfl | exact Or.inr rfl) (se_bin op_addA op2_addI (se_bin op_addA op2_addI (se_fz (se_slice (se_fld ["Code"] T.a_rows (se_var (pv 0)) rfl) so_none (so_some (se_var (pv 1))))) (se_tup (sa_cons (se_var (pv 2)) sa_nil))) (se_fz (se_slice (se_fld ["Code"] T.a_rows (se_var (pv 0)) rfl) (so_some (se_bin op_addA op2_add (se_var (pv 1)) se_int)) so_none))))
  (sss_one (ss_ret (se_fz (se_mk (ps := ["self", "rows", "notes", "entries", "thunks", "vows", "common", "book"]) C_Code 0 (hr.mono (by decide)) tk (by exact rfl) (sa_cons (se_var (pv 3)) (sa_cons (se_fld ["Code"] T.a_notes (se_var (pv 0)) rfl) (sa_cons (se_fld ["Code"] T.a_entries (se_var (pv 0)) rfl) (sa_cons (se_fld ["Code"] T.a_thunks (se_var (pv 0)) rfl) (sa_cons (se_fld ["Code"] T.a_vows (se_var (pv 0)) rfl) (sa_cons (se_fld ["Code"] T.a_common (se_var (pv 0)) rfl) (sa_cons (se_fld ["Code"] T.a_book (se_var (pv 0)) rfl) sa_nil)))))))))))))
  · refine shs_all1 ⟨?_, trivial⟩
    · exact sh_all (F.bindsN fun _ _ _ _ _ _ us hl => match us, hl with | [_, _, _], _ => rfl) rfl
theorem ok_Code_with_note (T : Ts K mg) : Tk P w K mg base 4 "Code" "with_note" ["self", "at", "note"] f_Code_with_note [(2, [], gAll)] := by
  have C_Code : Ck P w K mg base 2 "Code" _ f_Code___init__ _ := ok_Code___init__ T
  have M_Code_need_row : Tk P w K mg base 3 "Code" "need_row" _ f_Code_need_row _ := ok_Code_need_row T
  obtain ⟨fd, F⟩ := T.d_Code_with_note
  have F : FunD K "with_note" "Code.with_note" (defArgs s_Code_with_note) (defBody s_Code_with_note) (defScope s_Code_with_note) [] [] (He.ma K (ga K "Code") "with_note") fd := F
  refine ⟨T.cl_Code, T.mt_Code_with_note, fd, fn_body F sc_Code_with_note fun cdv A outer s H E hr tk => ?_, ?_⟩
  · exact (sss_cons (ss_expr (se_mt (ps := ["self", "at"]) M_Code_need_row 0 (hr.mono (by decide)) tk (se_var (pv 0)) (sa_cons (se_var (pv 1)) sa_nil)))
  (sss_cons (ss_set (i := 3) sc_Code_with_note.nd rfl (by first | exact Or.inl rfl | exact Or.inr rfl) (se_bin op_addA op2_addI (se_bin op_addA op2_addI (se_fz (se_slice (se_fld ["Code"] T.a_notes (se_var (pv 0)) rfl) so_none (so_some (se_var (pv 1))))) (se_tup (sa_cons (se_var (pv 2)) sa_nil))) (se_fz (se_slice (se_fld ["Code"] T.a_notes (se_var (pv 0)) rfl) (so_some (se_bin op_addA op2_add (se_var (pv 1)) se_int)) so_none))))
  (sss_one (ss_ret (se_fz (se_mk (ps := ["self", "rows", "notes", "entries", "thunks", "vows", "common", "book"]) C_Code 0 (hr.mono (by decide)) tk (by exact rfl) (sa_cons (se_fld ["Code"] T.a_rows (se_var (pv 0)) rfl) (sa_cons (se_var (pv 3)) (sa_cons (se_fld ["Code"] T.a_entries (se_var (pv 0)) rfl) (sa_cons (se_fld ["Code"] T.a_thunks (se_var (pv 0)) rfl) (sa_cons (se_fld ["Code"] T.a_vows (se_var (pv 0)) rfl) (sa_cons (se_fld ["Code"] T.a_common (se_var (pv 0)) rfl) (sa_cons (se_fld ["Code"] T.a_book (se_var (pv 0)) rfl) sa_nil)))))))))))))
  · refine shs_all1 ⟨?_, trivial⟩
    · exact sh_all (F.bindsN fun _ _ _ _ _ _ us hl => match us, hl with | [_, _, _], _ => rfl) rfl
theorem ok_law_fault (T : Ts K mg) : Fk P w K mg base 5 "_law_fault" ["_law_code", "_law_way", "_law_at"] f_law_fault [(3, [], gAll)] := by
  have M_Code_with_row : Tk P w K mg base 4 "Code" "with_row" _ f_Code_with_row _ := ok_Code_with_row T
  have M_Code_with_note : Tk P w K mg base 4 "Code" "with_note" _ f_Code_with_note _ := ok_Code_with_note T
  obtain ⟨fd, F⟩ := T.d_law_fault
  have F : FunD K "_law_fault" "_law_fault" (defArgs s_law_fault) (defBody s_law_fault) (defScope s_law_fault) [] [] (ga K "_law_fault") fd := F
  refine ⟨T.m_law_fault, F.kp, fd, fn_body F sc_law_fault fun cdv A outer s H E hr tk => ?_, ?_⟩
  · exact (sss_cons (ss_set (i := 3) sc_law_fault.nd rfl (by first | exact Or.inl rfl | exact Or.inr rfl) se_non)
  (sss_cons (ss_try T.x_law_fault_2 rfl rfl sc_law_fault.nd tk (fun _ _ _ tk => (sss_one (ss_if (st_cmp (op_eqA (Rm.uu hr 64 (by decide))) op2_eq (se_var (pv 1)) se_int rfl) (sss_one (ss_expr (se_mt (ps := ["self", "at", "row"]) M_Code_with_row 0 (hr.mono (by decide)) tk (se_var (pv 0)) (sa_cons (se_var (pv 2)) (sa_cons (se_tup (sa_cons se_str (sa_cons se_str sa_nil))) sa_nil))))) (sss_one (ss_expr (se_mt (ps := ["self", "at", "note"]) M_Code_with_note 0 (hr.mono (by decide)) tk (se_var (pv 0)) (sa_cons (se_var (pv 2)) (sa_cons (se_tup (sa_cons se_int (sa_cons (se_tup (sa_cons se_str (sa_cons (se_neg se_int) sa_nil))) (sa_cons (se_tup sa_nil) (sa_cons se_non sa_nil))))) sa_nil)))))))) (.as (i := 4) (names_own (by exact rfl) T.m_NoRow (by decide) (by decide)) rfl rfl (fun _ _ => (sss_one (ss_set (i := 3) sc_law_fault.nd rfl (by first | exact Or.inl rfl | exact Or.inr rfl) (se_var (pv 4))))) SHds.nil) sss_nil)
  (sss_one (ss_ret (se_var (pv 3))))))
  · refine shs_all ⟨?_, trivial⟩
    · exact sh_all (F.bindsN fun _ _ _ _ _ _ us hl => match us, hl with | [_, _, _], _ => rfl) rfl
theorem ok_law_take (T : Ts K mg) : Fk P w K mg base 1 "_law_take" ["_law_state", "_law_many"] f_law_take [(2, [], gAll)] := by
  obtain ⟨fd, F⟩ := T.d_law_take
  have F : FunD K "_law_take" "_law_take" (defArgs s_law_take) (defBody s_law_take) (defScope s_law_take) [] [] (ga K "_law_take") fd := F
  refine ⟨T.m_law_take, F.kp, fd, fn_body F sc_law_take fun cdv A outer s H E hr tk => ?_, ?_⟩
  · exact (sss_cons (ss_if (sw_t (sw_and (st_cmp (op_eqA (Rm.uu hr 64 (by decide))) op2_eq (se_dget (Rm.uu hr 1 (by decide)) (se_var (pv 0)) se_str (fun _ _ => rfl)) se_int rfl) (sw_and1 (st_cmp (op_neA (Rm.uu hr 64 (by decide))) op2_ne (se_dget (Rm.uu hr 1 (by decide)) (se_var (pv 0)) se_str (fun _ _ => rfl)) (se_lst sa_nil) rfl)))) (sss_one (ss_dput (Rm.uu hr 1 (by decide)) (se_var (pv 0)) se_str (se_bm tyM_l opM_popAt PySem.F.plainAttrs_list PySem.F.slot_list_pop PySem.F.type_list_pop mt_popAt (se_dget (Rm.uu hr 1 (by decide)) (se_var (pv 0)) se_str (fun _ _ => rfl)) (sa_cons se_int sa_nil)) rfl)) sss_nil)
  (sss_cons (ss_if (st_cmp op_gt op2_cmpI (se_dget (Rm.uu hr 1 (by decide)) (se_var (pv 0)) se_str (fun _ _ => rfl)) se_int rfl) (sss_cons (ss_set (i := 2) sc_law_take.nd rfl (by first | exact Or.inl rfl | exact Or.inr rfl) (se_bin op_mod op2_mod (se_dget (Rm.uu hr 1 (by decide)) (se_var (pv 0)) se_str (fun _ _ => rfl)) (se_var (pv 1))))
  (sss_cons (ss_dput (Rm.uu hr 1 (by decide)) (se_var (pv 0)) se_str (se_bin op_fdivW op2_div (se_dget (Rm.uu hr 1 (by decide)) (se_var (pv 0)) se_str (fun _ _ => rfl)) (se_var (pv 1))) rfl)
  (sss_one (ss_ret (se_var (pv 2)))))) sss_nil)
  (sss_cons (ss_set (i := 3) sc_law_take.nd rfl (by first | exact Or.inl rfl | exact Or.inr rfl) (se_dget (Rm.uu hr 1 (by decide)) (se_var (pv 0)) se_str (fun _ _ => rfl)))
  (sss_cons (ss_dput (Rm.uu hr 1 (by decide)) (se_var (pv 0)) se_str (se_bin op_addA op2_add (se_var (pv 3)) se_int) rfl)
  (sss_cons (ss_set (i := 4) sc_law_take.nd rfl (by first | exact Or.inl rfl | exact Or.inr rfl) (se_ix (se_dget (Rm.uu hr 1 (by decide)) (se_var (pv 0)) se_str (fun _ _ => rfl)) (se_bin op_mod op2_mod (se_var (pv 3)) (se_blt op_lenA opN_len (by exact rfl) T.n_len bo_len (sa_cons (se_dget (Rm.uu hr 1 (by decide)) (se_var (pv 0)) se_str (fun _ _ => rfl)) sa_nil))) (fun _ _ => rfl)))
  (sss_cons (ss_set (i := 5) sc_law_take.nd rfl (by first | exact Or.inl rfl | exact Or.inr rfl) (se_bin op_mod op2_mod (se_bin op_addA op2_add (se_bin op_addA op2_add (se_bin op_mulA op2_mul (se_dget (Rm.uu hr 1 (by decide)) (se_var (pv 0)) se_str (fun _ _ => rfl)) se_int) (se_bin op_mulA op2_mul (se_var (pv 4)) (se_bin op_addA op2_add (se_bin op_mulA op2_mul se_int (se_var (pv 3))) se_int))) (se_bin op_pow op2_pow (se_var (pv 3)) se_int)) se_int))
  (sss_cons (ss_dput (Rm.uu hr 1 (by decide)) (se_var (pv 0)) se_str (se_var (pv 5)) rfl)
  (sss_cons (ss_set (i := 6) sc_law_take.nd rfl (by first | exact Or.inl rfl | exact Or.inr rfl) (se_bin op_addA op2_add (se_bin op_mulA op2_mul (se_bin op_mod op2_mod (se_bin op_pow op2_pow (se_var (pv 5)) se_int) se_int) se_int) (se_bin op_mod op2_mod (se_bin op_pow op2_pow (se_var (pv 5)) se_int) se_int)))
  (sss_one (ss_ret (se_bin op_mod op2_mod (se_bin op_fdivW op2_div (se_var (pv 6)) se_int) (se_var (pv 1)))))))))))))
  · refine shs_all ⟨?_, trivial⟩
    · exact sh_all (F.bindsN fun _ _ _ _ _ _ us hl => match us, hl with | [_, _], _ => rfl) rfl
theorem ok_law_pick (T : Ts K mg) : Fk P w K mg base 2 "_law_pick" ["_law_state", "_law_some"] f_law_pick [(2, [], gAll)] := by
  have G_law_take : Fk P w K mg base 1 "_law_take" _ f_law_take _ := ok_law_take T
  obtain ⟨fd, F⟩ := T.d_law_pick
  have F : FunD K "_law_pick" "_law_pick" (defArgs s_law_pick) (defBody s_law_pick) (defScope s_law_pick) [] [] (ga K "_law_pick") fd := F
  refine ⟨T.m_law_pick, F.kp, fd, fn_body F sc_law_pick fun cdv A outer s H E hr tk => ?_, ?_⟩
  · exact (sss_one (ss_ret (se_ix (se_var (pv 1)) (se_fk (ps := ["_law_state", "_law_many"]) G_law_take 0 (hr.mono (by decide)) tk (by exact rfl) (sa_cons (se_var (pv 0)) (sa_cons (se_blt op_lenA opN_len (by exact rfl) T.n_len bo_len (sa_cons (se_var (pv 1)) sa_nil)) sa_nil))) (fun _ _ => rfl))))
  · refine shs_all ⟨?_, trivial⟩
    · exact sh_all (F.bindsN fun _ _ _ _ _ _ us hl => match us, hl with | [_, _], _ => rfl) rfl
theorem ok_law_told (T : Ts K mg) : Fk P w K mg base 1 "_law_told" ["_law_code"] f_law_told [(1, [], gAll)] := by
  obtain ⟨fd, F⟩ := T.d_law_told
  have F : FunD K "_law_told" "_law_told" (defArgs s_law_told) (defBody s_law_told) (defScope s_law_told) [] [] (ga K "_law_told") fd := F
  refine ⟨T.m_law_told, F.kp, fd, fn_body F sc_law_told fun cdv A outer s H E hr tk => ?_, ?_⟩
  · exact (sss_cons (ss_fzA (ss_setLc (i := 1) (S := [2]) (own := [("_law_function", 2)]) rfl sc_law_told.nd rfl rfl (by exact sw_true rfl rfl rfl rfl) (si_any (se_fld ["Book"] T.a_functions (se_fld ["Code"] T.a_book (se_var (pv 0)) rfl) rfl)) (blk_of (N := N_law_told) (sc := (defScope s_law_told)) (by decide +kernel)) (by decide) (fun _ _ _ _ _ => by exact (sg_name (i := 2) sc_law_told.nd rfl (by first | exact Or.inl rfl | exact Or.inr rfl))) (fun _ _ _ _ _ => by exact sts_nil) (fun _ _ _ _ _ => by exact (se_fld ["Function"] T.a_name (se_var (pv 2)) rfl))))
  (sss_one (ss_ret (se_lstI (sa_cons (se_fld ["Code"] T.a_rows (se_var (pv 0)) rfl) (sa_cons (se_fld ["Code"] T.a_notes (se_var (pv 0)) rfl) (sa_cons (se_fld ["Code"] T.a_entries (se_var (pv 0)) rfl) (sa_cons (se_fld ["Code"] T.a_thunks (se_var (pv 0)) rfl) (sa_cons (se_fld ["Code"] T.a_vows (se_var (pv 0)) rfl) (sa_cons (se_fld ["Code"] T.a_common (se_var (pv 0)) rfl) (sa_cons (se_var (pv 1)) sa_nil)))))))))))
  · refine shs_all ⟨?_, trivial⟩
    · exact sh_all (F.bindsN fun _ _ _ _ _ _ us hl => match us, hl with | [_], _ => rfl) rfl
theorem ok_law_place (T : Ts K mg) : Fk P w K mg base 2 "_law_place" ["_law_state"] f_law_place [(1, [], gAll)] := by
  have G_law_take : Fk P w K mg base 1 "_law_take" _ f_law_take _ := ok_law_take T
  obtain ⟨fd, F⟩ := T.d_law_place
  have F : FunD K "_law_place" "_law_place" (defArgs s_law_place) (defBody s_law_place) (defScope s_law_place) [] [] (ga K "_law_place") fd := F
  refine ⟨T.m_law_place, F.kp, fd, fn_body F sc_law_place fun cdv A outer s H E hr tk => ?_, ?_⟩
  · exact (sss_one (ss_ret (se_ix (se_lstI (sa_cons (se_tup (sa_cons se_str (sa_cons (se_fk (ps := ["_law_state", "_law_many"]) G_law_take 0 (hr.mono (by decide)) tk (by exact rfl) (sa_cons (se_var (pv 0)) (sa_cons se_int sa_nil))) sa_nil))) (sa_cons (se_tup (sa_cons se_str (sa_cons (se_fk (ps := ["_law_state", "_law_many"]) G_law_take 0 (hr.mono (by decide)) tk (by exact rfl) (sa_cons (se_var (pv 0)) (sa_cons se_int sa_nil))) sa_nil))) sa_nil))) (se_fk (ps := ["_law_state", "_law_many"]) G_law_take 0 (hr.mono (by decide)) tk (by exact rfl) (sa_cons (se_var (pv 0)) (sa_cons se_int sa_nil))) (fun _ _ => rfl))))
  · refine shs_all ⟨?_, trivial⟩
    · exact sh_all (F.bindsN fun _ _ _ _ _ _ us hl => match us, hl with | [_], _ => rfl) rfl
theorem ok_law_row (T : Ts K mg) : Fk P w K mg base 3 "_law_row" ["_law_state"] f_law_row [(1, [], gAll)] := by
  have G_law_take : Fk P w K mg base 1 "_law_take" _ f_law_take _ := ok_law_take T
  have G_law_place : Fk P w K mg base 2 "_law_place" _ f_law_place _ := ok_law_place T
  have G_law_pick : Fk P w K mg base 2 "_law_pick" _ f_law_pick _ := ok_law_pick T
  obtain ⟨fd, F⟩ := T.d_law_row
  have F : FunD K "_law_row" "_law_row" (defArgs s_law_row) (defBody s_law_row) (defScope s_law_row) [] [] (ga K "_law_row") fd := F
  refine ⟨T.m_law_row, F.kp, fd, fn_body F sc_law_row fun cdv A outer s H E hr tk => ?_, ?_⟩
  · exact (sss_cons (ss_par (i := 1) (j := 2) rfl sc_law_row.nd rfl rfl (by decide) rfl rfl (sa_cons (se_fk (ps := ["_law_state", "_law_many"]) G_law_take 0 (hr.mono (by decide)) tk (by exact rfl) (sa_cons (se_var (pv 0)) (sa_cons se_int sa_nil))) (sa_cons (se_fk (ps := ["_law_state"]) G_law_place 0 (hr.mono (by decide)) tk (by exact rfl) (sa_cons (se_var (pv 0)) sa_nil)) sa_nil)) rfl)
  (sss_cons (ss_if (st_cmp (op_eqA (Rm.uu hr 64 (by decide))) op2_eq (se_var (pv 1)) se_int rfl) (sss_one (ss_ret (se_tup (sa_cons se_str (sa_cons (se_var (pv 2)) (sa_cons (se_fk (ps := ["_law_state"]) G_law_place 0 (hr.mono (by decide)) tk (by exact rfl) (sa_cons (se_var (pv 0)) sa_nil)) sa_nil)))))) sss_nil)
  (sss_cons (ss_if (st_cmp (op_eqA (Rm.uu hr 64 (by decide))) op2_eq (se_var (pv 1)) se_int rfl) (sss_one (ss_ret (se_tup (sa_cons (se_fk (ps := ["_law_state", "_law_some"]) G_law_pick 0 (hr.mono (by decide)) tk (by exact rfl) (sa_cons (se_var (pv 0)) (sa_cons (se_lstI (sa_cons se_str (sa_cons se_str (sa_cons se_str sa_nil)))) sa_nil))) (sa_cons (se_var (pv 2)) (sa_cons (se_fk (ps := ["_law_state"]) G_law_place 0 (hr.mono (by decide)) tk (by exact rfl) (sa_cons (se_var (pv 0)) sa_nil)) (sa_cons (se_tup (sa_cons se_str (sa_cons (se_fk (ps := ["_law_state", "_law_many"]) G_law_take 0 (hr.mono (by decide)) tk (by exact rfl) (sa_cons (se_var (pv 0)) (sa_cons se_int sa_nil))) sa_nil))) sa_nil))))))) sss_nil)
  (sss_cons (ss_if (st_cmp (op_eqA (Rm.uu hr 64 (by decide))) op2_eq (se_var (pv 1)) se_int rfl) (sss_one (ss_ret (se_tup (sa_cons (se_fk (ps := ["_law_state", "_law_some"]) G_law_pick 0 (hr.mono (by decide)) tk (by exact rfl) (sa_cons (se_var (pv 0)) (sa_cons (se_lstI (sa_cons se_str (sa_cons se_str (sa_cons se_str sa_nil)))) sa_nil))) (sa_cons (se_fk (ps := ["_law_state", "_law_many"]) G_law_take 0 (hr.mono (by decide)) tk (by exact rfl) (sa_cons (se_var (pv 0)) (sa_cons se_int sa_nil))) sa_nil))))) sss_nil)
  (sss_cons (ss_if (st_cmp (op_eqA (Rm.uu hr 64 (by decide))) op2_eq (se_var (pv 1)) se_int rfl) (sss_one (ss_ret (se_tup (sa_cons se_str (sa_cons (se_var (pv 2)) (sa_cons (se_fk (ps := ["_law_state"]) G_law_place 0 (hr.mono (by decide)) tk (by exact rfl) (sa_cons (se_var (pv 0)) sa_nil)) (sa_cons (se_fk (ps := ["_law_state", "_law_many"]) G_law_take 0 (hr.mono (by decide)) tk (by exact rfl) (sa_cons (se_var (pv 0)) (sa_cons se_int sa_nil))) (sa_cons se_int sa_nil)))))))) sss_nil)
  (sss_one (ss_ret (se_ix (se_lstI (sa_cons (se_tup (sa_cons se_str (sa_cons se_str sa_nil))) (sa_cons (se_tup (sa_cons se_str (sa_cons (se_tup (sa_cons se_str sa_nil)) (sa_cons se_int sa_nil)))) (sa_cons (se_tup (sa_cons se_str (sa_cons (se_var (pv 2)) sa_nil))) (sa_cons (se_tup (sa_cons se_str (sa_cons (se_tup (sa_cons (se_var (pv 2)) (sa_cons (se_var (pv 2)) sa_nil))) sa_nil))) sa_nil))))) (se_bin op_sub op2_sub (se_var (pv 1)) se_int) (fun _ _ => rfl)))))))))
  · refine shs_all ⟨?_, trivial⟩
    · exact sh_all (F.bindsN fun _ _ _ _ _ _ us hl => match us, hl with | [_], _ => rfl) rfl
theorem ok_law_note (T : Ts K mg) : Fk P w K mg base 3 "_law_note" ["_law_state"] f_law_note [(1, [], gAll)] := by
  have G_law_pick : Fk P w K mg base 2 "_law_pick" _ f_law_pick _ := ok_law_pick T
  have G_law_take : Fk P w K mg base 1 "_law_take" _ f_law_take _ := ok_law_take T
  obtain ⟨fd, F⟩ := T.d_law_note
  have F : FunD K "_law_note" "_law_note" (defArgs s_law_note) (defBody s_law_note) (defScope s_law_note) [] [] (ga K "_law_note") fd := F
  refine ⟨T.m_law_note, F.kp, fd, fn_body F sc_law_note fun cdv A outer s H E hr tk => ?_, ?_⟩
  · exact (sss_cons (ss_set (i := 1) sc_law_note.nd rfl (by first | exact Or.inl rfl | exact Or.inr rfl) (se_blty call_tuple_of opN_tuple (by exact rfl) T.n_tuple bo_tuple (sa_cons (se_fz (se_lc (S := [3]) (own := [("_law_k", 3)]) rfl sc_law_note.nd (si_range1 (by exact rfl) T.n_range se_int) (blk_of (N := N_law_note) (sc := (defScope s_law_note)) (by decide +kernel)) (by decide) (fun _ _ _ _ _ => by exact (sg_name (i := 3) sc_law_note.nd rfl (by first | exact Or.inl rfl | exact Or.inr rfl))) (fun _ _ _ _ _ => by exact (sts_one (st_cmp (op_eqA (Rm.uu hr 64 (by decide))) op2_eq (se_fk (ps := ["_law_state", "_law_many"]) G_law_take 0 (hr.mono (by decide)) takesN (by exact rfl) (sa_cons (se_var (pv 0)) (sa_cons se_int sa_nil))) se_int rfl))) (fun _ _ _ _ _ => by exact (se_tup (sa_cons (se_var (pv 3)) (sa_cons (se_fk (ps := ["_law_state", "_law_some"]) G_law_pick 0 (hr.mono (by decide)) takesN (by exact rfl) (sa_cons (se_var (pv 0)) (sa_cons (se_lstI (sa_cons se_non (sa_cons se_int (sa_cons se_int sa_nil)))) sa_nil))) sa_nil)))))) sa_nil)))
  (sss_cons (ss_set (i := 2) sc_law_note.nd rfl (by first | exact Or.inl rfl | exact Or.inr rfl) (se_fk (ps := ["_law_state", "_law_some"]) G_law_pick 0 (hr.mono (by decide)) tk (by exact rfl) (sa_cons (se_var (pv 0)) (sa_cons (se_lstI (sa_cons se_non (sa_cons (se_tup (sa_cons (se_fk (ps := ["_law_state", "_law_many"]) G_law_take 0 (hr.mono (by decide)) tk (by exact rfl) (sa_cons (se_var (pv 0)) (sa_cons se_int sa_nil))) (sa_cons se_int (sa_cons se_int sa_nil)))) sa_nil))) sa_nil))))
  (sss_one (ss_ret (se_tup (sa_cons (se_fk (ps := ["_law_state", "_law_many"]) G_law_take 0 (hr.mono (by decide)) tk (by exact rfl) (sa_cons (se_var (pv 0)) (sa_cons se_int sa_nil))) (sa_cons (se_fk (ps := ["_law_state", "_law_some"]) G_law_pick 0 (hr.mono (by decide)) tk (by exact rfl) (sa_cons (se_var (pv 0)) (sa_cons (se_lstI (sa_cons (se_tup (sa_cons se_str (sa_cons (se_neg se_int) sa_nil))) (sa_cons (se_tup (sa_cons se_str (sa_cons se_int sa_nil))) (sa_cons (se_tup (sa_cons se_str (sa_cons se_int sa_nil))) sa_nil)))) sa_nil))) (sa_cons (se_var (pv 1)) (sa_cons (se_var (pv 2)) sa_nil)))))))))
  · refine shs_all ⟨?_, trivial⟩
    · exact sh_all (F.bindsN fun _ _ _ _ _ _ us hl => match us, hl with | [_], _ => rfl) rfl
theorem ok_bodies_of (T : Ts K mg) : Fk P w K mg base 1 "bodies_of" ["statement"] f_bodies_of [(1, [], gAll)] := by
  obtain ⟨fd, F⟩ := T.d_bodies_of
  have F : FunD K "bodies_of" "bodies_of" (defArgs s_bodies_of) (defBody s_bodies_of) (defScope s_bodies_of) [] [] (ga K "bodies_of") fd := F
  refine ⟨T.m_bodies_of, F.kp, fd, fn_body F sc_bodies_of fun cdv A outer s H E hr tk => ?_, ?_⟩
  · exact (sss_cons (ss_set (i := 1) sc_bodies_of.nd rfl (by first | exact Or.inl rfl | exact Or.inr rfl) (se_ix (se_var (pv 0)) se_int (fun _ _ => rfl)))
  (sss_cons (ss_if (st_cmp (op_eqA (Rm.uu hr 64 (by decide))) op2_eq (se_var (pv 1)) se_str rfl) (sss_one (ss_ret (se_tup (sa_cons (se_ix (se_var (pv 0)) se_int (fun _ _ => rfl)) (sa_cons (se_ix (se_var (pv 0)) se_int (fun _ _ => rfl)) sa_nil))))) sss_nil)
  (sss_cons (ss_if (st_cmp (op_eqA (Rm.uu hr 64 (by decide))) op2_eq (se_var (pv 1)) se_str rfl) (sss_one (ss_ret (se_tup (sa_cons (se_ix (se_var (pv 0)) se_int (fun _ _ => rfl)) sa_nil)))) sss_nil)
  (sss_cons (ss_if (st_cmp (op_eqA (Rm.uu hr 64 (by decide))) op2_eq (se_var (pv 1)) se_str rfl) (sss_one (ss_ret (se_tup (sa_cons (se_ix (se_var (pv 0)) se_int (fun _ _ => rfl)) (sa_cons (se_ix (se_var (pv 0)) se_int (fun _ _ => rfl)) sa_nil))))) sss_nil)
  (sss_one (ss_ret (se_tup sa_nil)))))))
  · refine shs_all ⟨?_, trivial⟩
    · exact sh_all (F.bindsN fun _ _ _ _ _ _ us hl => match us, hl with | [_], _ => rfl) rfl
theorem okp_statements_of (T : Ts K mg) {lv : Nat} {F0 : List AV → Hs → R AV} (h : ∀ fd, FunD K "statements_of" "statements_of" (defArgs s_statements_of) (defBody s_statements_of) (defScope s_statements_of) [] [] (ga K "statements_of") fd → FnG P w K mg base (CX P w) lv (ga K "statements_of") fd ["body"] (fsp K ["body"].length F0)) : Fk P w K mg base lv "statements_of" ["body"] F0 [(1, [], gAll)] := by
  obtain ⟨fd, F⟩ := T.d_statements_of
  have F : FunD K "statements_of" "statements_of" (defArgs s_statements_of) (defBody s_statements_of) (defScope s_statements_of) [] [] (ga K "statements_of") fd := F
  refine ⟨T.m_statements_of, F.kp, fd, h fd F, ?_⟩
  · refine shs_all ⟨?_, trivial⟩
    · exact sh_all (F.bindsN fun _ _ _ _ _ _ us hl => match us, hl with | [_], _ => rfl) rfl
theorem ring_statements_of (T : Ts K mg) : ∀ n : Nat, Fk P w K mg base (2 + n) "statements_of" ["body"] (ringF step_statements_of n 0) [(1, [], gAll)]
  | 0 => okp_statements_of T fun fd F => fnG_no
  | n + 1 => by
    have G_statements_of := ring_statements_of T n
    have G_bodies_of : Fk P w K mg base 1 "bodies_of" _ f_bodies_of _ := ok_bodies_of T
    refine ?_
    · refine okp_statements_of T fun fd F => fn_body (k := 2 + n) F sc_statements_of fun cdv A outer s H E hr tk => ?_
      exact (sss_cons (ss_set (i := 1) sc_statements_of.nd rfl (by first | exact Or.inl rfl | exact Or.inr rfl) (se_lst sa_nil))
  (sss_cons (ss_for (passes_of rfl) rfl (si_any (se_var (pv 0))) (sg_name (i := 2) sc_statements_of.nd rfl (by first | exact Or.inl rfl | exact Or.inr rfl)) (sss_cons (ss_expr (se_bm tyM_l opM_app PySem.F.plainAttrs_list PySem.F.slot_list_append PySem.F.type_list_append mt_append (se_var (pv 1)) (sa_cons (se_var (pv 2)) sa_nil)))
  (sss_one (ss_for (passes_of rfl) rfl (si_any (se_fk (ps := ["statement"]) G_bodies_of 0 (hr.mono (by omega)) tk (by exact rfl) (sa_cons (se_var (pv 2)) sa_nil))) (sg_name (i := 3) sc_statements_of.nd rfl (by first | exact Or.inl rfl | exact Or.inr rfl)) (sss_one (ss_expr (se_bm tyM_l opM_extA PySem.F.plainAttrs_list PySem.F.slot_list_extend PySem.F.type_list_extend mt_extend (se_var (pv 1)) (sa_cons (se_fk (ps := ["body"]) G_statements_of 0 (hr.mono (by omega)) tk (by exact rfl) (sa_cons (se_var (pv 3)) sa_nil)) sa_nil))))))))
  (sss_one (ss_ret (se_fz (se_var (pv 1)))))))
theorem ok_statements_of (T : Ts K mg) : Fk P w K mg base 22 "statements_of" ["body"] f_statements_of [(1, [], gAll)] := (ring_statements_of T 20)
theorem ok_takes (T : Ts K mg) : Fk P w K mg base 1 "takes" ["function", "many"] f_takes [(2, [], gAll)] := by
  obtain ⟨fd, F⟩ := T.d_takes
  have F : FunD K "takes" "takes" (defArgs s_takes) (defBody s_takes) (defScope s_takes) [] [] (ga K "takes") fd := F
  refine ⟨T.m_takes, F.kp, fd, fn_body F sc_takes fun cdv A outer s H E hr tk => ?_, ?_⟩
  · exact (sss_one (ss_ret (se_or (se_cmp (op_eqA (Rm.uu hr 64 (by decide))) op2_eq (se_var (pv 1)) (se_blt op_lenA opN_len (by exact rfl) T.n_len bo_len (sa_cons (se_fld ["Function"] T.a_params (se_var (pv 0)) rfl) sa_nil)) rfl) (se_one (se_and (se_fld ["Function"] T.a_more (se_var (pv 0)) rfl) (se_one (se_cmp op_gt op2_cmpI (se_var (pv 1)) (se_blt op_lenA opN_len (by exact rfl) T.n_len bo_len (sa_cons (se_fld ["Function"] T.a_params (se_var (pv 0)) rfl) sa_nil)) rfl)))))))
  · refine shs_all ⟨?_, trivial⟩
    · exact sh_all (F.bindsN fun _ _ _ _ _ _ us hl => match us, hl with | [_, _], _ => rfl) rfl
theorem ok_call_is_wrong (T : Ts K mg) : Fk P w K mg base 2 "call_is_wrong" ["statement", "known"] f_call_is_wrong [(2, [], gAll)] := by
  have G_takes : Fk P w K mg base 1 "takes" _ f_takes _ := ok_takes T
  obtain ⟨fd, F⟩ := T.d_call_is_wrong
  have F : FunD K "call_is_wrong" "call_is_wrong" (defArgs s_call_is_wrong) (defBody s_call_is_wrong) (defScope s_call_is_wrong) [] [] (ga K "call_is_wrong") fd := F
  refine ⟨T.m_call_is_wrong, F.kp, fd, fn_body F sc_call_is_wrong fun cdv A outer s H E hr tk => ?_, ?_⟩
  · exact (sss_cons (ss_if (st_cmp (op_neA (Rm.uu hr 64 (by decide))) op2_ne (se_ix (se_var (pv 0)) se_int (fun _ _ => rfl)) se_str rfl) (sss_one (ss_ret se_bl)) sss_nil)
  (sss_cons (ss_set (i := 2) sc_call_is_wrong.nd rfl (by first | exact Or.inl rfl | exact Or.inr rfl) (se_dget1 (Rm.uu hr 1 (by decide)) (se_var (pv 1)) (se_ix (se_var (pv 0)) se_int (fun _ _ => rfl))))
  (sss_cons (ss_if (sw_t (sw_or (st_cmp op_isN op2_isN (se_var (pv 2)) se_non rfl) (sw_or1 (st_cmp (op_neA (Rm.uu hr 64 (by decide))) op2_ne (se_fld ["Function", "Vow"] T.a_results (se_var (pv 2)) rfl) (se_blt op_lenA opN_len (by exact rfl) T.n_len bo_len (sa_cons (se_ix (se_var (pv 0)) se_int (fun _ _ => rfl)) sa_nil)) rfl)))) (sss_one (ss_ret se_bl)) sss_nil)
  (sss_one (ss_ret (se_not (se_fk (ps := ["function", "many"]) G_takes 0 (hr.mono (by decide)) tk (by exact rfl) (sa_cons (se_var (pv 2)) (sa_cons (se_blt op_lenA opN_len (by exact rfl) T.n_len bo_len (sa_cons (se_ix (se_var (pv 0)) se_int (fun _ _ => rfl)) sa_nil)) sa_nil)))))))))
  · refine shs_all ⟨?_, trivial⟩
    · exact sh_all (F.bindsN fun _ _ _ _ _ _ us hl => match us, hl with | [_, _], _ => rfl) rfl
theorem ok_given_by (T : Ts K mg) : Fk P w K mg base 1 "given_by" ["statement"] f_given_by [(1, [], gAll)] := by
  obtain ⟨fd, F⟩ := T.d_given_by
  have F : FunD K "given_by" "given_by" (defArgs s_given_by) (defBody s_given_by) (defScope s_given_by) [] [] (ga K "given_by") fd := F
  refine ⟨T.m_given_by, F.kp, fd, fn_body F sc_given_by fun cdv A outer s H E hr tk => ?_, ?_⟩
  · exact (sss_cons (ss_set (i := 1) sc_given_by.nd rfl (by first | exact Or.inl rfl | exact Or.inr rfl) (se_ix (se_var (pv 0)) se_int (fun _ _ => rfl)))
  (sss_cons (ss_if (st_cmp (op_eqA (Rm.uu hr 64 (by decide))) op2_eq (se_var (pv 1)) se_str rfl) (sss_one (ss_ret (se_blty call_tuple_of opN_tuple (by exact rfl) T.n_tuple bo_tuple (sa_cons (se_ix (se_var (pv 0)) se_int (fun _ _ => rfl)) sa_nil)))) sss_nil)
  (sss_cons (ss_if (sw_t (sw_or (st_cmp (op_eqA (Rm.uu hr 64 (by decide))) op2_eq (se_var (pv 1)) se_str rfl) (sw_or1 (st_cmp (op_eqA (Rm.uu hr 64 (by decide))) op2_eq (se_var (pv 1)) se_str rfl)))) (sss_one (ss_ret (se_tup (sa_cons (se_ix (se_var (pv 0)) se_int (fun _ _ => rfl)) sa_nil)))) sss_nil)
  (sss_cons (ss_if (st_cmp (op_eqA (Rm.uu hr 64 (by decide))) op2_eq (se_var (pv 1)) se_str rfl) (sss_one (ss_ret (se_tup (sa_cons (se_ix (se_var (pv 0)) se_int (fun _ _ => rfl)) sa_nil)))) sss_nil)
  (sss_one (ss_ret (se_tup sa_nil)))))))
  · refine shs_all ⟨?_, trivial⟩
    · exact sh_all (F.bindsN fun _ _ _ _ _ _ us hl => match us, hl with | [_], _ => rfl) rfl
theorem ok_parts_of (T : Ts K mg) : Fk P w K mg base 1 "parts_of" ["expression"] f_parts_of [(1, [], gAll)] := by
  obtain ⟨fd, F⟩ := T.d_parts_of
  have F : FunD K "parts_of" "parts_of" (defArgs s_parts_of) (defBody s_parts_of) (defScope s_parts_of) [] [] (ga K "parts_of") fd := F
  refine ⟨T.m_parts_of, F.kp, fd, fn_body F sc_parts_of fun cdv A outer s H E hr tk => ?_, ?_⟩
  · exact (sss_cons (ss_if (sw_t (sw_or (st_cmp (op_inA (Rm.uu hr 65 (by decide))) op2_in (se_ix (se_var (pv 0)) se_int (fun _ _ => rfl)) (se_glT (by exact rfl) T.m_SUMS T.t_SUMS) rfl) (sw_or1 (st_cmp (op_eqA (Rm.uu hr 64 (by decide))) op2_eq (se_ix (se_var (pv 0)) se_int (fun _ _ => rfl)) se_str rfl)))) (sss_one (ss_ret (se_fz (se_slice (se_var (pv 0)) (so_some se_int) so_none)))) sss_nil)
  (sss_one (ss_ret (se_tup sa_nil))))
  · refine shs_all ⟨?_, trivial⟩
    · exact sh_all (F.bindsN fun _ _ _ _ _ _ us hl => match us, hl with | [_], _ => rfl) rfl
theorem okp_all_within (T : Ts K mg) {lv : Nat} {F0 : List AV → Hs → R AV} (h : ∀ fd, FunD K "all_within" "all_within" (defArgs s_all_within) (defBody s_all_within) (defScope s_all_within) [] [] (ga K "all_within") fd → FnG P w K mg base (CX P w) lv (ga K "all_within") fd ["expressions"] (fsp K ["expressions"].length F0)) : Fk P w K mg base lv "all_within" ["expressions"] F0 [(1, [], gAll)] := by
  obtain ⟨fd, F⟩ := T.d_all_within
  have F : FunD K "all_within" "all_within" (defArgs s_all_within) (defBody s_all_within) (defScope s_all_within) [] [] (ga K "all_within") fd := F
  refine ⟨T.m_all_within, F.kp, fd, h fd F, ?_⟩
  · refine shs_all ⟨?_, trivial⟩
    · exact sh_all (F.bindsN fun _ _ _ _ _ _ us hl => match us, hl with | [_], _ => rfl) rfl
theorem ring_all_within (T : Ts K mg) : ∀ n : Nat, Fk P w K mg base (2 + n) "all_within" ["expressions"] (ringF step_all_within n 0) [(1, [], gAll)]
  | 0 => okp_all_within T fun fd F => fnG_no
  | n + 1 => by
    have G_all_within := ring_all_within T n
    have G_parts_of : Fk P w K mg base 1 "parts_of" _ f_parts_of _ := ok_parts_of T
    refine ?_
    · refine okp_all_within T fun fd F => fn_body (k := 2 + n) F sc_all_within fun cdv A outer s H E hr tk => ?_
      exact (sss_cons (ss_set (i := 1) sc_all_within.nd rfl (by first | exact Or.inl rfl | exact Or.inr rfl) (se_lst sa_nil))
  (sss_cons (ss_for (passes_of rfl) rfl (si_any (se_var (pv 0))) (sg_name (i := 2) sc_all_within.nd rfl (by first | exact Or.inl rfl | exact Or.inr rfl)) (sss_cons (ss_expr (se_bm tyM_l opM_app PySem.F.plainAttrs_list PySem.F.slot_list_append PySem.F.type_list_append mt_append (se_var (pv 1)) (sa_cons (se_var (pv 2)) sa_nil)))
  (sss_one (ss_expr (se_bm tyM_l opM_extA PySem.F.plainAttrs_list PySem.F.slot_list_extend PySem.F.type_list_extend mt_extend (se_var (pv 1)) (sa_cons (se_fk (ps := ["expressions"]) G_all_within 0 (hr.mono (by omega)) tk (by exact rfl) (sa_cons (se_fk (ps := ["expression"]) G_parts_of 0 (hr.mono (by omega)) tk (by exact rfl) (sa_cons (se_var (pv 2)) sa_nil)) sa_nil)) sa_nil))))))
  (sss_one (ss_ret (se_fz (se_var (pv 1)))))))
theorem ok_all_within (T : Ts K mg) : Fk P w K mg base 22 "all_within" ["expressions"] f_all_within [(1, [], gAll)] := (ring_all_within T 20)
theorem ok_expressions_of (T : Ts K mg) : Fk P w K mg base 1 "expressions_of" ["statement"] f_expressions_of [(1, [], gAll)] := by
  obtain ⟨fd, F⟩ := T.d_expressions_of
  have F : FunD K "expressions_of" "expressions_of" (defArgs s_expressions_of) (defBody s_expressions_of) (defScope s_expressions_of) [] [] (ga K "expressions_of") fd := F
  refine ⟨T.m_expressions_of, F.kp, fd, fn_body F sc_expressions_of fun cdv A outer s H E hr tk => ?_, ?_⟩
  · exact (sss_cons (ss_set (i := 1) sc_expressions_of.nd rfl (by first | exact Or.inl rfl | exact Or.inr rfl) (se_ix (se_var (pv 0)) se_int (fun _ _ => rfl)))
  (sss_cons (ss_if (st_cmp (op_eqA (Rm.uu hr 64 (by decide))) op2_eq (se_var (pv 1)) se_str rfl) (sss_one (ss_ret (se_tup (sa_cons (se_ix (se_var (pv 0)) se_int (fun _ _ => rfl)) sa_nil)))) sss_nil)
  (sss_cons (ss_if (st_cmp (op_eqA (Rm.uu hr 64 (by decide))) op2_eq (se_var (pv 1)) se_str rfl) (sss_one (ss_ret (se_ix (se_var (pv 0)) se_int (fun _ _ => rfl)))) sss_nil)
  (sss_cons (ss_if (st_cmp (op_eqA (Rm.uu hr 64 (by decide))) op2_eq (se_var (pv 1)) se_str rfl) (sss_one (ss_ret (se_bin op_addA op2_addI (se_tup (sa_cons (se_ix (se_var (pv 0)) se_int (fun _ _ => rfl)) sa_nil)) (se_blty call_tuple_of opN_tuple (by exact rfl) T.n_tuple bo_tuple (sa_cons (se_ix (se_var (pv 0)) se_int (fun _ _ => rfl)) sa_nil))))) sss_nil)
  (sss_cons (ss_if (st_cmp (op_eqA (Rm.uu hr 64 (by decide))) op2_eq (se_var (pv 1)) se_str rfl) (sss_one (ss_ret (se_ix (se_var (pv 0)) se_int (fun _ _ => rfl)))) sss_nil)
  (sss_cons (ss_if (st_cmp (op_eqA (Rm.uu hr 64 (by decide))) op2_eq (se_var (pv 1)) se_str rfl) (sss_one (ss_ret (se_tup sa_nil))) sss_nil)
  (sss_one (ss_ret (se_tup (sa_cons (se_ix (se_var (pv 0)) se_int (fun _ _ => rfl)) sa_nil))))))))))
  · refine shs_all ⟨?_, trivial⟩
    · exact sh_all (F.bindsN fun _ _ _ _ _ _ us hl => match us, hl with | [_], _ => rfl) rfl
theorem ok_boxes_read (T : Ts K mg) : Fk P w K mg base 23 "boxes_read" ["statement"] f_boxes_read [(1, [], gAll)] := by
  have G_all_within : Fk P w K mg base 22 "all_within" _ f_all_within _ := ok_all_within T
  have G_expressions_of : Fk P w K mg base 1 "expressions_of" _ f_expressions_of _ := ok_expressions_of T
  obtain ⟨fd, F⟩ := T.d_boxes_read
  have F : FunD K "boxes_read" "boxes_read" (defArgs s_boxes_read) (defBody s_boxes_read) (defScope s_boxes_read) [] [] (ga K "boxes_read") fd := F
  refine ⟨T.m_boxes_read, F.kp, fd, fn_body F sc_boxes_read fun cdv A outer s H E hr tk => ?_, ?_⟩
  · exact (sss_one (ss_ret (se_fz (se_lc (S := [1]) (own := [("one", 1)]) rfl sc_boxes_read.nd (si_any (se_fk (ps := ["expressions"]) G_all_within 0 (hr.mono (by decide)) tk (by exact rfl) (sa_cons (se_fk (ps := ["statement"]) G_expressions_of 0 (hr.mono (by decide)) tk (by exact rfl) (sa_cons (se_var (pv 0)) sa_nil)) sa_nil))) (blk_of (N := N_boxes_read) (sc := (defScope s_boxes_read)) (by decide +kernel)) (by decide) (fun _ _ _ _ _ => by exact (sg_name (i := 1) sc_boxes_read.nd rfl (by first | exact Or.inl rfl | exact Or.inr rfl))) (fun _ _ _ _ _ => by exact (sts_one (st_cmp (op_eqA (Rm.uu hr 64 (by decide))) op2_eq (se_ix (se_var (pv 1)) se_int (fun _ _ => rfl)) se_str rfl))) (fun _ _ _ _ _ => by exact (se_ix (se_var (pv 1)) se_int (fun _ _ => rfl)))))))
  · refine shs_all ⟨?_, trivial⟩
    · exact sh_all (F.bindsN fun _ _ _ _ _ _ us hl => match us, hl with | [_], _ => rfl) rfl
theorem ok_is_name (T : Ts K mg) : Fk P w K mg base 1 "is_name" ["text"] f_is_name [(1, [], gAll)] := by
  obtain ⟨fd, F⟩ := T.d_is_name
  have F : FunD K "is_name" "is_name" (defArgs s_is_name) (defBody s_is_name) (defScope s_is_name) [] [] (ga K "is_name") fd := F
  refine ⟨T.m_is_name, F.kp, fd, fn_body F sc_is_name fun cdv A outer s H E hr tk => ?_, ?_⟩
  · exact (sss_cons (ss_if (sw_t (sw_or (st_cmp op_lt op2_cmpI (se_blt op_lenA opN_len (by exact rfl) T.n_len bo_len (sa_cons (se_var (pv 0)) sa_nil)) se_int rfl) (sw_or (st_cmp op_gt op2_cmpI (se_blt op_lenA opN_len (by exact rfl) T.n_len bo_len (sa_cons (se_var (pv 0)) sa_nil)) (se_glI (by exact rfl) T.c_LONGEST) rfl) (sw_or1 (st_cmp (op_inA (Rm.uu hr 65 (by decide))) op2_in (se_var (pv 0)) (se_glT (by exact rfl) T.m_RESERVED T.t_RESERVED) rfl))))) (sss_one (ss_ret se_bl)) sss_nil)
  (sss_one (ss_ret (se_blt (cr_all rfl) opN_all (by exact rfl) T.n_all bo_all (sa_cons (se_fz (se_lc (S := [1]) (own := [("sign", 1)]) rfl sc_is_name.nd (si_any (se_var (pv 0))) (blk_of (N := N_is_name) (sc := (defScope s_is_name)) (by decide +kernel)) (by decide) (fun _ _ _ _ _ => by exact (sg_name (i := 1) sc_is_name.nd rfl (by first | exact Or.inl rfl | exact Or.inr rfl))) (fun _ _ _ _ _ => by exact sts_nil) (fun _ _ _ _ _ => by exact (se_cmp (op_inA (Rm.uu hr 65 (by decide))) op2_in (se_var (pv 1)) (se_glS (by exact rfl) T.c_LETTERS) rfl)))) sa_nil)))))
  · refine shs_all ⟨?_, trivial⟩
    · exact sh_all (F.bindsN fun _ _ _ _ _ _ us hl => match us, hl with | [_], _ => rfl) rfl
theorem ok_wrong_in (T : Ts K mg) : Fk P w K mg base 24 "wrong_in" ["function", "statement", "known"] f_wrong_in [(3, [], gAll)] := by
  have G_call_is_wrong : Fk P w K mg base 2 "call_is_wrong" _ f_call_is_wrong _ := ok_call_is_wrong T
  have G_given_by : Fk P w K mg base 1 "given_by" _ f_given_by _ := ok_given_by T
  have G_boxes_read : Fk P w K mg base 23 "boxes_read" _ f_boxes_read _ := ok_boxes_read T
  have G_is_name : Fk P w K mg base 1 "is_name" _ f_is_name _ := ok_is_name T
  have G_all_within : Fk P w K mg base 22 "all_within" _ f_all_within _ := ok_all_within T
  have G_expressions_of : Fk P w K mg base 1 "expressions_of" _ f_expressions_of _ := ok_expressions_of T
  obtain ⟨fd, F⟩ := T.d_wrong_in
  have F : FunD K "wrong_in" "wrong_in" (defArgs s_wrong_in) (defBody s_wrong_in) (defScope s_wrong_in) [] [] (ga K "wrong_in") fd := F
  refine ⟨T.m_wrong_in, F.kp, fd, fn_body F sc_wrong_in fun cdv A outer s H E hr tk => ?_, ?_⟩
  · exact (sss_cons (ss_set (i := 3) sc_wrong_in.nd rfl (by first | exact Or.inl rfl | exact Or.inr rfl) (se_fk (ps := ["expressions"]) G_all_within 0 (hr.mono (by decide)) tk (by exact rfl) (sa_cons (se_fk (ps := ["statement"]) G_expressions_of 0 (hr.mono (by decide)) tk (by exact rfl) (sa_cons (se_var (pv 1)) sa_nil)) sa_nil)))
  (sss_cons (ss_if (st_not (st_tru (se_blt (cr_all rfl) opN_all (by exact rfl) T.n_all bo_all (sa_cons (se_fz (se_lc (S := [5]) (own := [("name", 5)]) rfl sc_wrong_in.nd (si_any (se_bin op_addA op2_addI (se_blty call_list_of opN_listI (by exact rfl) T.n_list bo_list (sa_cons (se_fk (ps := ["statement"]) G_given_by 0 (hr.mono (by decide)) tk (by exact rfl) (sa_cons (se_var (pv 1)) sa_nil)) sa_nil)) (se_fk (ps := ["statement"]) G_boxes_read 0 (hr.mono (by decide)) tk (by exact rfl) (sa_cons (se_var (pv 1)) sa_nil)))) (blk_of (N := N_wrong_in) (sc := (defScope s_wrong_in)) (by decide +kernel)) (by decide) (fun _ _ _ _ _ => by exact (sg_name (i := 5) sc_wrong_in.nd rfl (by first | exact Or.inl rfl | exact Or.inr rfl))) (fun _ _ _ _ _ => by exact sts_nil) (fun _ _ _ _ _ => by exact (se_fk (ps := ["text"]) G_is_name 0 (hr.mono (by decide)) takesN (by exact rfl) (sa_cons (se_var (pv 5)) sa_nil))))) sa_nil)) (fun _ => rfl))) (sss_one (ss_ret se_str)) sss_nil)
  (sss_cons (ss_if (st_tru (se_fk (ps := ["statement", "known"]) G_call_is_wrong 0 (hr.mono (by decide)) tk (by exact rfl) (sa_cons (se_var (pv 1)) (sa_cons (se_var (pv 2)) sa_nil))) (fun _ => rfl)) (sss_one (ss_ret se_str)) sss_nil)
  (sss_cons (ss_for (passes_of rfl) rfl (si_any (se_var (pv 3))) (sg_name (i := 4) sc_wrong_in.nd rfl (by first | exact Or.inl rfl | exact Or.inr rfl)) (sss_one (ss_if (sw_t (sw_and (st_cmp (op_eqA (Rm.uu hr 64 (by decide))) op2_eq (se_ix (se_var (pv 4)) se_int (fun _ _ => rfl)) se_str rfl) (sw_and1 (sw_t (sw_or (st_cmp (op_ninK (Rm.uu hr 1 (by decide))) op2_ninK (se_ix (se_var (pv 4)) se_int (fun _ _ => rfl)) (se_var (pv 2)) rfl) (sw_or1 (st_cmp (op_neA (Rm.uu hr 64 (by decide))) op2_ne (se_fld ["Function", "Vow"] T.a_results (se_dget (Rm.uu hr 1 (by decide)) (se_var (pv 2)) (se_ix (se_var (pv 4)) se_int (fun _ _ => rfl)) (fun _ _ => rfl)) rfl) se_int rfl))))))) (sss_one (ss_ret se_str)) sss_nil)))
  (sss_cons (ss_if (sw_t (sw_and (st_cmp (op_eqA (Rm.uu hr 64 (by decide))) op2_eq (se_ix (se_var (pv 1)) se_int (fun _ _ => rfl)) se_str rfl) (sw_and1 (st_cmp (op_neA (Rm.uu hr 64 (by decide))) op2_ne (se_blt op_lenA opN_len (by exact rfl) T.n_len bo_len (sa_cons (se_ix (se_var (pv 1)) se_int (fun _ _ => rfl)) sa_nil)) (se_fld ["Function", "Vow"] T.a_results (se_var (pv 0)) rfl) rfl)))) (sss_one (ss_ret se_str)) sss_nil)
  (sss_cons (ss_if (sw_t (sw_and (st_not (st_tru (se_fld ["Function"] T.a_more (se_var (pv 0)) rfl) (fun _ => rfl))) (sw_and1 (st_cmp (op_neA (Rm.uu hr 64 (by decide))) op2_ne (se_fz (se_lc (S := [6]) (own := [("one", 6)]) rfl sc_wrong_in.nd (si_any (se_var (pv 3))) (blk_of (N := N_wrong_in) (sc := (defScope s_wrong_in)) (by decide +kernel)) (by decide) (fun _ _ _ _ _ => by exact (sg_name (i := 6) sc_wrong_in.nd rfl (by first | exact Or.inl rfl | exact Or.inr rfl))) (fun _ _ _ _ _ => by exact (sts_one (st_cmp (op_inA (Rm.uu hr 65 (by decide))) op2_in (se_ix (se_var (pv 6)) se_int (fun _ _ => rfl)) (se_tup (sa_cons se_str (sa_cons se_str sa_nil))) rfl))) (fun _ _ _ _ _ => by exact (se_var (pv 6))))) (se_lstI sa_nil) rfl)))) (sss_one (ss_ret se_str)) sss_nil)
  (sss_one (ss_ret se_non))))))))
  · refine shs_all ⟨?_, trivial⟩
    · exact sh_all (F.bindsN fun _ _ _ _ _ _ us hl => match us, hl with | [_, _, _], _ => rfl) rfl
theorem ok_look_at (T : Ts K mg) : Fk P w K mg base 25 "look_at" ["function", "ahead", "known"] f_look_at [(3, [], gAll)] := by
  have G_statements_of : Fk P w K mg base 22 "statements_of" _ f_statements_of _ := ok_statements_of T
  have X_NoBook : Xk P w K mg base 1 "NoBook" 3 [("name", 1), ("word", 2)] := okx_NoBook T
  have G_wrong_in : Fk P w K mg base 24 "wrong_in" _ f_wrong_in _ := ok_wrong_in T
  have G_is_name : Fk P w K mg base 1 "is_name" _ f_is_name _ := ok_is_name T
  obtain ⟨fd, F⟩ := T.d_look_at
  have F : FunD K "look_at" "look_at" (defArgs s_look_at) (defBody s_look_at) (defScope s_look_at) [] [] (ga K "look_at") fd := F
  refine ⟨T.m_look_at, F.kp, fd, fn_body F sc_look_at fun cdv A outer s H E hr tk => ?_, ?_⟩
  · exact (sss_cons (ss_if (sw_t (sw_or (st_not (st_tru (se_fk (ps := ["text"]) G_is_name 0 (hr.mono (by decide)) tk (by exact rfl) (sa_cons (se_fld ["Function"] T.a_name (se_var (pv 0)) rfl) sa_nil)) (fun _ => rfl))) (sw_or1 (st_cmp (op_inA (Rm.uu hr 65 (by decide))) op2_in (se_fld ["Function"] T.a_name (se_var (pv 0)) rfl) (se_var (pv 1)) rfl)))) (sss_one (ss_raise X_NoBook (hr.mono (by decide)) rfl tk (by exact rfl) (sa_cons (se_fld ["Function"] T.a_name (se_var (pv 0)) rfl) (sa_cons se_str sa_nil)))) sss_nil)
  (sss_cons (ss_for (passes_of rfl) rfl (si_enum (by exact rfl) T.n_enumerate (se_fld ["Function"] T.a_params (se_var (pv 0)) rfl)) (sg_tup rfl (sgs_cons (sg_name (i := 3) sc_look_at.nd rfl (by first | exact Or.inl rfl | exact Or.inr rfl)) (sgs_cons (sg_name (i := 4) sc_look_at.nd rfl (by first | exact Or.inl rfl | exact Or.inr rfl)) sgs_nil))) (sss_one (ss_if (sw_t (sw_or (st_not (st_tru (se_fk (ps := ["text"]) G_is_name 0 (hr.mono (by decide)) tk (by exact rfl) (sa_cons (se_var (pv 4)) sa_nil)) (fun _ => rfl))) (sw_or1 (st_cmp (op_inA (Rm.uu hr 65 (by decide))) op2_in (se_var (pv 4)) (se_fz (se_slice (se_fld ["Function"] T.a_params (se_var (pv 0)) rfl) so_none (so_some (se_var (pv 3))))) rfl)))) (sss_one (ss_raise X_NoBook (hr.mono (by decide)) rfl tk (by exact rfl) (sa_cons (se_fld ["Function"] T.a_name (se_var (pv 0)) rfl) (sa_cons se_str sa_nil)))) sss_nil)))
  (sss_one (ss_for (passes_of rfl) rfl (si_any (se_fk (ps := ["body"]) G_statements_of 0 (hr.mono (by decide)) tk (by exact rfl) (sa_cons (se_fld ["Function"] T.a_body (se_var (pv 0)) rfl) sa_nil))) (sg_name (i := 5) sc_look_at.nd rfl (by first | exact Or.inl rfl | exact Or.inr rfl)) (sss_cons (ss_set (i := 6) sc_look_at.nd rfl (by first | exact Or.inl rfl | exact Or.inr rfl) (se_fk (ps := ["function", "statement", "known"]) G_wrong_in 0 (hr.mono (by decide)) tk (by exact rfl) (sa_cons (se_var (pv 0)) (sa_cons (se_var (pv 5)) (sa_cons (se_var (pv 2)) sa_nil)))))
  (sss_one (ss_if (st_cmp op_notN op2_notN (se_var (pv 6)) se_non rfl) (sss_one (ss_raise X_NoBook (hr.mono (by decide)) rfl tk (by exact rfl) (sa_cons (se_fld ["Function"] T.a_name (se_var (pv 0)) rfl) (sa_cons (se_var (pv 6)) sa_nil)))) sss_nil)))))))
  · refine shs_all ⟨?_, trivial⟩
    · exact sh_all (F.bindsN fun _ _ _ _ _ _ us hl => match us, hl with | [_, _, _], _ => rfl) rfl
theorem ok_Book___init__ (T : Ts K mg) : Ck P w K mg base 26 "Book" ["self", "functions"] f_Book___init__ [(1, [], gAll)] := by
  have X_NoBook : Xk P w K mg base 1 "NoBook" 3 [("name", 1), ("word", 2)] := okx_NoBook T
  have G_look_at : Fk P w K mg base 25 "look_at" _ f_look_at _ := ok_look_at T
  obtain ⟨fd, F⟩ := T.d_Book___init__
  have F : FunD K "__init__" "Book.__init__" (defArgs s_Book___init__) (defBody s_Book___init__) (defScope s_Book___init__) [] [] (He.ma K (ga K "Book") "__init__") fd := F
  refine ⟨T.m_Book, T.k_Book, fd, fn_body F sc_Book___init__ fun cdv A outer s H E hr tk => ?_, ?_⟩
  · exact (sss_cons (ss_fld ["Book"] T.a_functions (se_var (pv 0)) (se_blty call_tuple_of opN_tuple (by exact rfl) T.n_tuple bo_tuple (sa_cons (se_var (pv 1)) sa_nil)) rfl)
  (sss_cons (ss_fzA (ss_setDc (i := 2) (S := [4]) (own := [("function", 4)]) rfl sc_Book___init__.nd rfl rfl (by exact sw_trueD rfl rfl rfl rfl) (si_any (se_fz (se_rev (se_fld ["Book"] T.a_functions (se_var (pv 0)) rfl)))) (blk_of (N := N_Book___init__) (sc := (defScope s_Book___init__)) (by decide +kernel)) (by decide) (fun _ _ _ _ _ => by exact (sg_name (i := 4) sc_Book___init__.nd rfl (by first | exact Or.inl rfl | exact Or.inr rfl))) (fun _ _ _ _ _ => by exact sts_nil) (fun _ _ _ _ _ => by exact (se_fld ["Function"] T.a_name (se_var (pv 4)) rfl)) (fun _ _ _ _ _ => by exact (se_var (pv 4)))))
  (sss_cons (ss_for (passes_of rfl) rfl (si_enum (by exact rfl) T.n_enumerate (se_fld ["Book"] T.a_functions (se_var (pv 0)) rfl)) (sg_tup rfl (sgs_cons (sg_name (i := 3) sc_Book___init__.nd rfl (by first | exact Or.inl rfl | exact Or.inr rfl)) (sgs_cons (sg_name (i := 4) sc_Book___init__.nd rfl (by first | exact Or.inl rfl | exact Or.inr rfl)) sgs_nil))) (sss_one (ss_expr (se_fk (ps := ["function", "ahead", "known"]) G_look_at 0 (hr.mono (by decide)) tk (by exact rfl) (sa_cons (se_var (pv 4)) (sa_cons (se_fz (se_lc (S := [5]) (own := [("other", 5)]) rfl sc_Book___init__.nd (si_any (se_fz (se_slice (se_fld ["Book"] T.a_functions (se_var (pv 0)) rfl) so_none (so_some (se_var (pv 3)))))) (blk_of (N := N_Book___init__) (sc := (defScope s_Book___init__)) (by decide +kernel)) (by decide) (fun _ _ _ _ _ => by exact (sg_name (i := 5) sc_Book___init__.nd rfl (by first | exact Or.inl rfl | exact Or.inr rfl))) (fun _ _ _ _ _ => by exact sts_nil) (fun _ _ _ _ _ => by exact (se_fld ["Function"] T.a_name (se_var (pv 5)) rfl)))) (sa_cons (se_var (pv 2)) sa_nil)))))))
  (sss_cons (ss_if (st_cmp (op_eqE (Rm.uu hr 64 (by decide))) op2_eqE (se_fld ["Book"] T.a_functions (se_var (pv 0)) rfl) (se_tup sa_nil) rfl) (sss_one (ss_raise X_NoBook (hr.mono (by decide)) rfl tk (by exact rfl) (sa_cons se_str (sa_cons se_str sa_nil)))) sss_nil)
  (sss_one (ss_if (st_tru (se_fld ["Function"] T.a_more (se_ix (se_fld ["Book"] T.a_functions (se_var (pv 0)) rfl) se_int (fun _ _ => rfl)) rfl) (fun _ => rfl)) (sss_one (ss_raise X_NoBook (hr.mono (by decide)) rfl tk (by exact rfl) (sa_cons (se_fld ["Function"] T.a_name (se_ix (se_fld ["Book"] T.a_functions (se_var (pv 0)) rfl) se_int (fun _ _ => rfl)) rfl) (sa_cons se_str sa_nil)))) sss_nil))))))
  · refine shs_all1 ⟨?_, trivial⟩
    · exact sh_all (F.bindsN fun _ _ _ _ _ _ us hl => match us, hl with | [_, _], _ => rfl) rfl
theorem ok_Function___init__ (T : Ts K mg) : Ck P w K mg base 1 "Function" ["self", "name", "params", "body", "results", "more"] f_Function___init__ [(3, ["results"], (gP [.bl false] [.p 0, .p 1, .p 2, .p 3, .k 0, .d 0]))] := by
  obtain ⟨fd, F⟩ := T.d_Function___init__
  have F : FunD K "__init__" "Function.__init__" (defArgs s_Function___init__) (defBody s_Function___init__) (defScope s_Function___init__) [] [("results", .int 0), ("more", .bl false)] (He.ma K (ga K "Function") "__init__") fd := F
  refine ⟨T.m_Function, T.k_Function, fd, fn_body F sc_Function___init__ fun cdv A outer s H E hr tk => ?_, ?_⟩
  · exact (sss_cons (ss_fld ["Function"] T.a_name (se_var (pv 0)) (se_var (pv 1)) rfl)
  (sss_cons (ss_fld ["Function"] T.a_params (se_var (pv 0)) (se_blty call_tuple_of opN_tuple (by exact rfl) T.n_tuple bo_tuple (sa_cons (se_var (pv 2)) sa_nil)) rfl)
  (sss_cons (ss_fld ["Function"] T.a_body (se_var (pv 0)) (se_var (pv 3)) rfl)
  (sss_cons (ss_fld ["Function", "Vow"] T.a_results (se_var (pv 0)) (se_var (pv 4)) rfl)
  (sss_one (ss_fld ["Function"] T.a_more (se_var (pv 0)) (se_var (pv 5)) rfl))))))
  · refine shs_all1 ⟨?_, trivial⟩
    · exact shTk0 F [.bl false] [("more", .bl false)] (rk_fl rk_nil) (by intro h; cases h) (by simp) 4 ["results"] _ fun _ _ _ _ _ _ us mv ws h1 h2 h3 => match us, mv, ws, h1, h2, h3 with | [_, _, _, _], [_], [_], _, _, _ => ⟨_, _, _, _, _, _, rfl, rfl, rfl⟩
theorem ok_Vow___init__ (T : Ts K mg) : Ck P w K mg base 3 "Vow" ["self", "handed", "results", "kept", "link", "count", "up", "clears"] f_Vow___init__ [(0, ["kept", "handed", "link", "results", "clears", "up", "count"], (gP [] [.p 0, .k 1, .k 3, .k 0, .k 2, .k 6, .k 5, .k 4]))] := by
  have X_NoVow : Xk P w K mg base 1 "NoVow" 2 [("name", 1)] := okx_NoVow T
  obtain ⟨fd, F⟩ := T.d_Vow___init__
  have F : FunD K "__init__" "Vow.__init__" (defArgs s_Vow___init__) (defBody s_Vow___init__) (defScope s_Vow___init__) [] [("handed", .ref ((kwAt ("Vow", some "__init__") "handed") K)), ("results", .ref ((kwAt ("Vow", some "__init__") "results") K)), ("kept", .ref ((kwAt ("Vow", some "__init__") "kept") K)), ("link", .non), ("count", .non), ("up", .bl true), ("clears", .str "caller")] (He.ma K (ga K "Vow") "__init__") fd := F
  refine ⟨T.m_Vow, T.k_Vow, fd, fn_body F sc_Vow___init__ fun cdv A outer s H E hr tk => ?_, ?_⟩
  · exact (sss_cons (ss_fzA (ss_setLc (i := 8) (S := [9]) (own := [("number", 9)]) rfl sc_Vow___init__.nd rfl rfl (by exact sw_true rfl rfl rfl rfl) (si_any (se_tup (sa_cons (se_var (pv 4)) (sa_cons (se_var (pv 5)) sa_nil)))) (blk_of (N := N_Vow___init__) (sc := (defScope s_Vow___init__)) (by decide +kernel)) (by decide) (fun _ _ _ _ _ => by exact (sg_name (i := 9) sc_Vow___init__.nd rfl (by first | exact Or.inl rfl | exact Or.inr rfl))) (fun _ _ _ _ _ => by exact (sts_one (st_cmp op_notN op2_notN (se_var (pv 9)) se_non rfl))) (fun _ _ _ _ _ => by exact (se_var (pv 9)))))
  (sss_cons (ss_if (sw_t (sw_or (st_cmp op_gt op2_cmpI (se_blt op_lenA opN_len (by exact rfl) T.n_len bo_len (sa_cons (se_var (pv 1)) sa_nil)) (se_glI (by exact rfl) T.c_MOST_HANDED) rfl) (sw_or (st_cmp (op_neA (Rm.uu hr 64 (by decide))) op2_ne (se_blt op_lenA opN_len (by exact rfl) T.n_len bo_len (sa_cons (se_var (pv 2)) sa_nil)) (se_glI (by exact rfl) T.c_MOST_RESULTS) rfl) (sw_or1 (st_cmp (op_ninA (Rm.uu hr 65 (by decide))) op2_nin (se_var (pv 7)) (se_tup (sa_cons (se_glS (by exact rfl) T.c_CALLER) (sa_cons (se_glS (by exact rfl) T.c_CALLEE) sa_nil))) rfl))))) (sss_one (ss_raise X_NoVow (hr.mono (by decide)) rfl tk (by exact rfl) (sa_cons se_str sa_nil))) sss_nil)
  (sss_cons (ss_if (st_not (st_tru (se_blt (cr_all rfl) opN_all (by exact rfl) T.n_all bo_all (sa_cons (se_fz (se_lc2 (S := [10]) (S1 := [9]) (vs1 := [9]) (own := [("part", 10), ("number", 9)]) rfl sc_Vow___init__.nd (si_any (se_tup (sa_cons (se_var (pv 1)) (sa_cons (se_var (pv 2)) (sa_cons (se_var (pv 3)) (sa_cons (se_var (pv 8)) sa_nil)))))) (blk_of (N := N_Vow___init__) (sc := (defScope s_Vow___init__)) (by decide +kernel)) (by decide) (by decide) (by decide) (fun _ _ _ _ _ => by exact (sg_name (i := 10) sc_Vow___init__.nd rfl (by first | exact Or.inl rfl | exact Or.inr rfl))) (fun _ _ _ _ _ => by exact sts_nil) (fun _ _ _ _ _ => by exact (si_any (se_var (pv 10)))) (fun _ _ _ _ _ => by exact (sg_name (i := 9) sc_Vow___init__.nd rfl (by first | exact Or.inl rfl | exact Or.inr rfl))) (fun _ _ _ _ _ => by exact sts_nil) (fun _ _ _ _ _ => by exact (se_chain op_le op_lt op2_cmpI op2_cmpI se_int (se_var (pv 9)) (se_glI (by exact rfl) T.c_REGISTERS) rfl)))) sa_nil)) (fun _ => rfl))) (sss_one (ss_raise X_NoVow (hr.mono (by decide)) rfl tk (by exact rfl) (sa_cons se_str sa_nil))) sss_nil)
  (sss_cons (ss_fld ["Vow"] T.a_handed (se_var (pv 0)) (se_blty call_tuple_of opN_tuple (by exact rfl) T.n_tuple bo_tuple (sa_cons (se_var (pv 1)) sa_nil)) rfl)
  (sss_cons (ss_fld ["Function", "Vow"] T.a_results (se_var (pv 0)) (se_blty call_tuple_of opN_tuple (by exact rfl) T.n_tuple bo_tuple (sa_cons (se_var (pv 2)) sa_nil)) rfl)
  (sss_cons (ss_fld ["Vow"] T.a_kept (se_var (pv 0)) (se_blty call_tuple_of opN_tuple (by exact rfl) T.n_tuple bo_tuple (sa_cons (se_var (pv 3)) sa_nil)) rfl)
  (sss_cons (ss_fld ["Vow"] T.a_link (se_var (pv 0)) (se_var (pv 4)) rfl)
  (sss_cons (ss_fld ["Vow"] T.a_count (se_var (pv 0)) (se_var (pv 5)) rfl)
  (sss_cons (ss_fld ["Vow"] T.a_up (se_var (pv 0)) (se_var (pv 6)) rfl)
  (sss_one (ss_fld ["Vow"] T.a_clears (se_var (pv 0)) (se_var (pv 7)) rfl)))))))))))
  · refine shs_all1 ⟨?_, trivial⟩
    · exact sh_n F 1 ["kept", "handed", "link", "results", "clears", "up", "count"] _ fun _ _ _ _ _ _ us ws h1 h2 => match us, ws, h1, h2 with | [_], [_, _, _, _, _, _, _], _, _ => rfl
theorem ok_law_vow (T : Ts K mg) : Fk P w K mg base 5 "_law_vow" ["_law_parts_here"] f_law_vow [(1, [], gAll)] := by
  have C_Vow : Ck P w K mg base 3 "Vow" _ f_Vow___init__ _ := ok_Vow___init__ T
  obtain ⟨fd, F⟩ := T.d_law_vow
  have F : FunD K "_law_vow" "_law_vow" (defArgs s_law_vow) (defBody s_law_vow) (defScope s_law_vow) [] [] (ga K "_law_vow") fd := F
  refine ⟨T.m_law_vow, F.kp, fd, fn_body F sc_law_vow fun cdv A outer s H E hr tk => ?_, ?_⟩
  · exact (sss_one (ss_ret (se_mkk0 (ks := ["kept", "handed", "link", "results", "clears", "up", "count"]) (ps := ["self", "handed", "results", "kept", "link", "count", "up", "clears"]) C_Vow 0 (hr.mono (by decide)) tk (by exact rfl) (sk_cons (se_ix (se_var (pv 0)) se_int (fun _ _ => rfl)) (sk_cons (se_ix (se_var (pv 0)) se_int (fun _ _ => rfl)) (sk_cons (se_ix (se_var (pv 0)) se_int (fun _ _ => rfl)) (sk_cons (se_ix (se_var (pv 0)) se_int (fun _ _ => rfl)) (sk_cons (se_ix (se_var (pv 0)) se_int (fun _ _ => rfl)) (sk_cons (se_ix (se_var (pv 0)) se_int (fun _ _ => rfl)) (sk_cons (se_ix (se_var (pv 0)) se_int (fun _ _ => rfl)) sk_nil))))))))))
  · refine shs_all ⟨?_, trivial⟩
    · exact sh_all (F.bindsN fun _ _ _ _ _ _ us hl => match us, hl with | [_], _ => rfl) rfl
theorem ok_law_parts (T : Ts K mg) : Fk P w K mg base 2 "_law_parts" ["_law_state"] f_law_parts [(1, [], gAll)] := by
  have G_law_take : Fk P w K mg base 1 "_law_take" _ f_law_take _ := ok_law_take T
  obtain ⟨fd, F⟩ := T.d_law_parts
  have F : FunD K "_law_parts" "_law_parts" (defArgs s_law_parts) (defBody s_law_parts) (defScope s_law_parts) [] [] (ga K "_law_parts") fd := F
  refine ⟨T.m_law_parts, F.kp, fd, fn_body F sc_law_parts fun cdv A outer s H E hr tk => ?_, ?_⟩
  · exact (sss_cons (ss_set (i := 1) sc_law_parts.nd rfl (by first | exact Or.inl rfl | exact Or.inr rfl) (se_bin op_addA op2_add se_int (se_fk (ps := ["_law_state", "_law_many"]) G_law_take 0 (hr.mono (by decide)) tk (by exact rfl) (sa_cons (se_var (pv 0)) (sa_cons se_int sa_nil)))))
  (sss_cons (ss_set (i := 1) sc_law_parts.nd rfl (by first | exact Or.inl rfl | exact Or.inr rfl) (se_ix (se_lstI (sa_cons (se_var (pv 1)) (sa_cons se_int (sa_cons se_int sa_nil)))) (se_fk (ps := ["_law_state", "_law_many"]) G_law_take 0 (hr.mono (by decide)) tk (by exact rfl) (sa_cons (se_var (pv 0)) (sa_cons se_int sa_nil))) (fun _ _ => rfl)))
  (sss_cons (ss_set (i := 2) sc_law_parts.nd rfl (by first | exact Or.inl rfl | exact Or.inr rfl) (se_fk (ps := ["_law_state", "_law_many"]) G_law_take 0 (hr.mono (by decide)) tk (by exact rfl) (sa_cons (se_var (pv 0)) (sa_cons se_int sa_nil))))
  (sss_cons (ss_set (i := 3) sc_law_parts.nd rfl (by first | exact Or.inl rfl | exact Or.inr rfl) (se_lstI (sa_cons (se_fk (ps := ["_law_state", "_law_many"]) G_law_take 0 (hr.mono (by decide)) tk (by exact rfl) (sa_cons (se_var (pv 0)) (sa_cons se_int sa_nil))) (sa_cons se_int (sa_cons (se_fk (ps := ["_law_state", "_law_many"]) G_law_take 0 (hr.mono (by decide)) tk (by exact rfl) (sa_cons (se_var (pv 0)) (sa_cons se_int sa_nil))) sa_nil)))))
  (sss_cons (ss_fzA (ss_setLc (i := 4) (S := [7]) (own := [("_law_some", 7)]) rfl sc_law_parts.nd rfl rfl (by exact sw_true rfl rfl rfl rfl) (si_any (se_var (pv 3))) (blk_of (N := N_law_parts) (sc := (defScope s_law_parts)) (by decide +kernel)) (by decide) (fun _ _ _ _ _ => by exact (sg_name (i := 7) sc_law_parts.nd rfl (by first | exact Or.inl rfl | exact Or.inr rfl))) (fun _ _ _ _ _ => by exact sts_nil) (fun _ _ _ _ _ => by exact (se_blty call_tuple_of opN_tuple (by exact rfl) T.n_tuple bo_tuple (sa_cons (se_fz (se_lc (S := [8]) (own := [("_law_k", 8)]) rfl sc_law_parts.nd (si_range1 (by exact rfl) T.n_range (se_var (pv 7))) (by refine blk_of (N := N_law_parts) ?_; dsimp only [Cx.blk, compEnvC]; rw [relab_eq]; show blkB N_law_parts (relab _ (defScope s_law_parts)) _ _ = true; decide +kernel) (by decide) (fun _ _ _ _ _ => by exact (sg_name (i := 8) sc_law_parts.nd rfl (by first | exact Or.inl rfl | exact Or.inr rfl))) (fun _ _ _ _ _ => by exact sts_nil) (fun _ _ _ _ _ => by exact (se_bin op_mod op2_mod (se_bin op_addA op2_add (se_var (pv 2)) (se_fk (ps := ["_law_state", "_law_many"]) G_law_take 0 (hr.mono (by decide)) takesN (by exact rfl) (sa_cons (se_var (pv 0)) (sa_cons (se_var (pv 1)) sa_nil)))) se_int)))) sa_nil)))))
  (sss_cons (ss_set (i := 5) sc_law_parts.nd rfl (by first | exact Or.inl rfl | exact Or.inr rfl) (se_lstI (sa_cons (se_fk (ps := ["_law_state", "_law_many"]) G_law_take 0 (hr.mono (by decide)) tk (by exact rfl) (sa_cons (se_var (pv 0)) (sa_cons se_int sa_nil))) (sa_cons (se_fk (ps := ["_law_state", "_law_many"]) G_law_take 0 (hr.mono (by decide)) tk (by exact rfl) (sa_cons (se_var (pv 0)) (sa_cons se_int sa_nil))) (sa_cons (se_fk (ps := ["_law_state", "_law_many"]) G_law_take 0 (hr.mono (by decide)) tk (by exact rfl) (sa_cons (se_var (pv 0)) (sa_cons se_int sa_nil))) (sa_cons (se_fk (ps := ["_law_state", "_law_many"]) G_law_take 0 (hr.mono (by decide)) tk (by exact rfl) (sa_cons (se_var (pv 0)) (sa_cons se_int sa_nil))) sa_nil))))))
  (sss_cons (ss_fzA (ss_setLc (i := 6) (S := [9]) (own := [("_law_way", 9)]) rfl sc_law_parts.nd rfl rfl (by exact sw_true rfl rfl rfl rfl) (si_any (se_fz (se_slice (se_var (pv 5)) so_none (so_some se_int)))) (blk_of (N := N_law_parts) (sc := (defScope s_law_parts)) (by decide +kernel)) (by decide) (fun _ _ _ _ _ => by exact (sg_name (i := 9) sc_law_parts.nd rfl (by first | exact Or.inl rfl | exact Or.inr rfl))) (fun _ _ _ _ _ => by exact sts_nil) (fun _ _ _ _ _ => by exact (se_ite (st_cmp (op_eqA (Rm.uu hr 64 (by decide))) op2_eq (se_var (pv 9)) se_int rfl) se_non (se_bin op_mod op2_mod (se_bin op_addA op2_add (se_var (pv 2)) (se_fk (ps := ["_law_state", "_law_many"]) G_law_take 0 (hr.mono (by decide)) takesN (by exact rfl) (sa_cons (se_var (pv 0)) (sa_cons (se_var (pv 1)) sa_nil)))) se_int)))))
  (sss_one (ss_ret (se_tup (sa_cons (se_ix (se_var (pv 4)) se_int (fun _ _ => rfl)) (sa_cons (se_ix (se_var (pv 4)) se_int (fun _ _ => rfl)) (sa_cons (se_ix (se_var (pv 4)) se_int (fun _ _ => rfl)) (sa_cons (se_ix (se_var (pv 6)) se_int (fun _ _ => rfl)) (sa_cons (se_ix (se_var (pv 6)) se_int (fun _ _ => rfl)) (sa_cons (se_cmp (op_eqA (Rm.uu hr 64 (by decide))) op2_eq (se_ix (se_var (pv 5)) se_int (fun _ _ => rfl)) se_int rfl) (sa_cons (se_ix (se_lstI (sa_cons (se_glS (by exact rfl) T.c_CALLER) (sa_cons (se_glS (by exact rfl) T.c_CALLEE) sa_nil))) (se_ix (se_var (pv 5)) se_int (fun _ _ => rfl)) (fun _ _ => rfl)) sa_nil)))))))))))))))))
  · refine shs_all ⟨?_, trivial⟩
    · exact sh_all (F.bindsN fun _ _ _ _ _ _ us hl => match us, hl with | [_], _ => rfl) rfl
theorem ok_law_begun (T : Ts K mg) : Fk P w K mg base 1 "_law_begun" ["_law_script"] f_law_begun [(1, [], gAll)] := by
  obtain ⟨fd, F⟩ := T.d_law_begun
  have F : FunD K "_law_begun" "_law_begun" (defArgs s_law_begun) (defBody s_law_begun) (defScope s_law_begun) [] [] (ga K "_law_begun") fd := F
  refine ⟨T.m_law_begun, F.kp, fd, fn_body F sc_law_begun fun cdv A outer s H E hr tk => ?_, ?_⟩
  · exact (sss_one (ss_ret (se_dict (SPs.cons se_str (se_lc (S := [1]) (own := [("_law_cell", 1)]) rfl sc_law_begun.nd (si_any (se_var (pv 0))) (blk_of (N := N_law_begun) (sc := (defScope s_law_begun)) (by decide +kernel)) (by decide) (fun _ _ _ _ _ => by exact (sg_name (i := 1) sc_law_begun.nd rfl (by first | exact Or.inl rfl | exact Or.inr rfl))) (fun _ _ _ _ _ => by exact (sts_one (st_cmp op_ge op2_cmpI (se_var (pv 1)) (se_bin op_pow op2_pow se_int se_int) rfl))) (fun _ _ _ _ _ => by exact (se_var (pv 1)))) (SPs.cons se_str se_int (SPs.cons se_str se_int (SPs.cons se_str se_int (SPs.cons se_str (se_bin op_addA op2_add (se_lc (S := [1]) (own := [("_law_cell", 1)]) rfl sc_law_begun.nd (si_any (se_var (pv 0))) (blk_of (N := N_law_begun) (sc := (defScope s_law_begun)) (by decide +kernel)) (by decide) (fun _ _ _ _ _ => by exact (sg_name (i := 1) sc_law_begun.nd rfl (by first | exact Or.inl rfl | exact Or.inr rfl))) (fun _ _ _ _ _ => by exact sts_nil) (fun _ _ _ _ _ => by exact (se_bin op_mod op2_mod (se_var (pv 1)) se_int))) (se_lst (sa_cons se_int sa_nil))) SPs.nil))))) rfl rfl (by decide) (by decide))))
  · refine shs_all ⟨?_, trivial⟩
    · exact sh_all (F.bindsN fun _ _ _ _ _ _ us hl => match us, hl with | [_], _ => rfl) rfl
theorem ok_law (T : Ts K mg) {fd : FuncData} (F : FunD K "law" "law" (defArgs s_law) (defBody s_law) (defScope s_law) [] [] (ga K "law") fd) : FnG P w K mg base (CX P w) 28 (ga K "law") fd ["_law_script"] (fsp K 1 f_law) := by
  have G_law_fault : Fk P w K mg base 5 "_law_fault" _ f_law_fault _ := ok_law_fault T
  have G_law_pick : Fk P w K mg base 2 "_law_pick" _ f_law_pick _ := ok_law_pick T
  have G_law_take : Fk P w K mg base 1 "_law_take" _ f_law_take _ := ok_law_take T
  have G_law_told : Fk P w K mg base 1 "_law_told" _ f_law_told _ := ok_law_told T
  have M_Code_with_row : Tk P w K mg base 4 "Code" "with_row" _ f_Code_with_row _ := ok_Code_with_row T
  have M_Code_with_note : Tk P w K mg base 4 "Code" "with_note" _ f_Code_with_note _ := ok_Code_with_note T
  have G_law_row : Fk P w K mg base 3 "_law_row" _ f_law_row _ := ok_law_row T
  have G_law_note : Fk P w K mg base 3 "_law_note" _ f_law_note _ := ok_law_note T
  have C_Code : Ck P w K mg base 2 "Code" _ f_Code___init__ _ := ok_Code___init__ T
  have C_Book : Ck P w K mg base 26 "Book" _ f_Book___init__ _ := ok_Book___init__ T
  have C_Function : Ck P w K mg base 1 "Function" _ f_Function___init__ _ := ok_Function___init__ T
  have G_law_vow : Fk P w K mg base 5 "_law_vow" _ f_law_vow _ := ok_law_vow T
  have G_law_parts : Fk P w K mg base 2 "_law_parts" _ f_law_parts _ := ok_law_parts T
  have G_law_begun : Fk P w K mg base 1 "_law_begun" _ f_law_begun _ := ok_law_begun T
  refine (fn_body F sc_law fun cdv A outer s H E hr tk => ?_ : FnG P w K mg base (CX P w) 28 (ga K "law") fd ["_law_script"] (fsp K ["_law_script"].length f_law))
  exact (sss_cons (ss_set (i := 1) sc_law.nd rfl (by first | exact Or.inl rfl | exact Or.inr rfl) (se_fk (ps := ["_law_script"]) G_law_begun 0 (hr.mono (by decide)) tk (by exact rfl) (sa_cons (se_var (pv 0)) sa_nil)))
  (sss_cons (ss_set (i := 2) sc_law.nd rfl (by first | exact Or.inl rfl | exact Or.inr rfl) (se_fk (ps := ["_law_parts_here"]) G_law_vow 0 (hr.mono (by decide)) tk (by exact rfl) (sa_cons (se_fk (ps := ["_law_state"]) G_law_parts 0 (hr.mono (by decide)) tk (by exact rfl) (sa_cons (se_var (pv 1)) sa_nil)) sa_nil)))
  (sss_cons (ss_set (i := 3) sc_law.nd rfl (by first | exact Or.inl rfl | exact Or.inr rfl) (se_fz (se_mk (ps := ["self", "functions"]) C_Book 0 (hr.mono (by decide)) tk (by exact rfl) (sa_cons (se_tup (sa_cons (se_fz (se_mkk (ks := ["results"]) (ps := ["self", "name", "params", "body", "results", "more"]) C_Function 0 (hr.mono (by decide)) tk (by exact rfl) (sa_cons se_str (sa_cons (se_tup (sa_cons se_str (sa_cons se_str sa_nil))) (sa_cons (se_tup (sa_cons (se_tup (sa_cons se_str (sa_cons (se_tup (sa_cons (se_tup (sa_cons se_str (sa_cons se_str sa_nil))) sa_nil)) sa_nil))) sa_nil)) sa_nil))) (sk_cons se_int sk_nil))) sa_nil)) sa_nil))))
  (sss_cons (ss_set (i := 4) sc_law.nd rfl (by first | exact Or.inl rfl | exact Or.inr rfl) (se_bin op_addA op2_add se_int (se_fk (ps := ["_law_state", "_law_many"]) G_law_take 0 (hr.mono (by decide)) tk (by exact rfl) (sa_cons (se_var (pv 1)) (sa_cons se_int sa_nil)))))
  (sss_cons (ss_par (i := 5) (j := 6) rfl sc_law.nd rfl rfl (by decide) rfl rfl (sa_cons (se_fz (se_lc (S := [19]) (own := [("_law_k", 19)]) rfl sc_law.nd (si_range1 (by exact rfl) T.n_range (se_var (pv 4))) (blk_of (N := N_law) (sc := (defScope s_law)) (by decide +kernel)) (by decide) (fun _ _ _ _ _ => by exact (sg_name (i := 19) sc_law.nd rfl (by first | exact Or.inl rfl | exact Or.inr rfl))) (fun _ _ _ _ _ => by exact sts_nil) (fun _ _ _ _ _ => by exact (se_fk (ps := ["_law_state"]) G_law_row 0 (hr.mono (by decide)) takesN (by exact rfl) (sa_cons (se_var (pv 1)) sa_nil))))) (sa_cons (se_fz (se_lc (S := [19]) (own := [("_law_k", 19)]) rfl sc_law.nd (si_range1 (by exact rfl) T.n_range (se_var (pv 4))) (blk_of (N := N_law) (sc := (defScope s_law)) (by decide +kernel)) (by decide) (fun _ _ _ _ _ => by exact (sg_name (i := 19) sc_law.nd rfl (by first | exact Or.inl rfl | exact Or.inr rfl))) (fun _ _ _ _ _ => by exact sts_nil) (fun _ _ _ _ _ => by exact (se_fk (ps := ["_law_state"]) G_law_note 0 (hr.mono (by decide)) takesN (by exact rfl) (sa_cons (se_var (pv 1)) sa_nil))))) sa_nil)) rfl)
  (sss_cons (ss_par (i := 7) (j := 8) rfl sc_law.nd rfl rfl (by decide) rfl rfl (sa_cons (se_dict (SPs.cons se_str (se_fk (ps := ["_law_state", "_law_many"]) G_law_take 0 (hr.mono (by decide)) tk (by exact rfl) (sa_cons (se_var (pv 1)) (sa_cons (se_var (pv 4)) sa_nil))) SPs.nil) rfl rfl (by decide) (by decide)) (sa_cons (se_dict (SPs.cons se_str (se_var (pv 2)) SPs.nil) rfl rfl (by decide) (by decide)) sa_nil)) rfl)
  (sss_cons (ss_set (i := 9) sc_law.nd rfl (by first | exact Or.inl rfl | exact Or.inr rfl) (se_fz (se_mk (ps := ["self", "rows", "notes", "entries", "thunks", "vows", "common", "book"]) C_Code 0 (hr.mono (by decide)) tk (by exact rfl) (sa_cons (se_blty call_tuple_of opN_tuple (by exact rfl) T.n_tuple bo_tuple (sa_cons (se_var (pv 5)) sa_nil)) (sa_cons (se_blty call_tuple_of opN_tuple (by exact rfl) T.n_tuple bo_tuple (sa_cons (se_var (pv 6)) sa_nil)) (sa_cons (se_var (pv 7)) (sa_cons (se_fz (se_dict (SPs.cons se_str se_int SPs.nil) rfl rfl (by decide) (by decide))) (sa_cons (se_var (pv 8)) (sa_cons (se_var (pv 2)) (sa_cons (se_var (pv 3)) sa_nil))))))))))
  (sss_cons (ss_set (i := 10) sc_law.nd rfl (by first | exact Or.inl rfl | exact Or.inr rfl) (se_lstI (sa_cons (se_blty call_tuple_of opN_tuple (by exact rfl) T.n_tuple bo_tuple (sa_cons (se_var (pv 5)) sa_nil)) (sa_cons (se_blty call_tuple_of opN_tuple (by exact rfl) T.n_tuple bo_tuple (sa_cons (se_var (pv 6)) sa_nil)) (sa_cons (se_fz (se_blty (call_dictA rfl) opN_dictA (by exact rfl) T.n_dict bo_dict (sa_cons (se_var (pv 7)) sa_nil))) (sa_cons (se_fz (se_dict (SPs.cons se_str se_int SPs.nil) rfl rfl (by decide) (by decide))) (sa_cons (se_fz (se_blty (call_dictA rfl) opN_dictA (by exact rfl) T.n_dict bo_dict (sa_cons (se_var (pv 8)) sa_nil))) (sa_cons (se_var (pv 2)) (sa_cons (se_lstI (sa_cons se_str sa_nil)) sa_nil)))))))))
  (sss_cons (ss_expr (se_bm0 tyM_d opM_dclear PySem.F.plainAttrs_dict PySem.F.slot_dict_clear PySem.F.type_dict_clear mtd_clear (se_var (pv 7))))
  (sss_cons (ss_expr (se_bm0 tyM_d opM_dclear PySem.F.plainAttrs_dict PySem.F.slot_dict_clear PySem.F.type_dict_clear mtd_clear (se_var (pv 8))))
  (sss_cons (ss_for (passes_of rfl) rfl (si_range1 (by exact rfl) T.n_range se_int) (sg_name (i := 11) sc_law.nd rfl (by first | exact Or.inl rfl | exact Or.inr rfl)) (sss_cons (ss_if (st_cmp (op_neW (Rm.uu hr 80 (by decide))) op2_neW (se_fk (ps := ["_law_code"]) G_law_told 0 (hr.mono (by decide)) tk (by exact rfl) (sa_cons (se_var (pv 9)) sa_nil)) (se_var (pv 10)) rfl) (sss_one (ss_ret se_bl)) sss_nil)
  (sss_cons (ss_par (i := 12) (j := 13) rfl sc_law.nd rfl rfl (by decide) rfl rfl (sa_cons (se_fk (ps := ["_law_state", "_law_many"]) G_law_take 0 (hr.mono (by decide)) tk (by exact rfl) (sa_cons (se_var (pv 1)) (sa_cons (se_var (pv 4)) sa_nil))) (sa_cons (se_fk (ps := ["_law_state", "_law_many"]) G_law_take 0 (hr.mono (by decide)) tk (by exact rfl) (sa_cons (se_var (pv 1)) (sa_cons se_int sa_nil))) sa_nil)) rfl)
  (sss_cons (ss_set (i := 14) sc_law.nd rfl (by first | exact Or.inl rfl | exact Or.inr rfl) (se_ite (st_cmp (op_eqA (Rm.uu hr 64 (by decide))) op2_eq (se_var (pv 13)) se_int rfl) (se_fk (ps := ["_law_state"]) G_law_row 0 (hr.mono (by decide)) tk (by exact rfl) (sa_cons (se_var (pv 1)) sa_nil)) (se_fk (ps := ["_law_state"]) G_law_note 0 (hr.mono (by decide)) tk (by exact rfl) (sa_cons (se_var (pv 1)) sa_nil))))
  (sss_cons (ss_set (i := 15) sc_law.nd rfl (by first | exact Or.inl rfl | exact Or.inr rfl) (se_ite (st_cmp (op_eqA (Rm.uu hr 64 (by decide))) op2_eq (se_var (pv 13)) se_int rfl) (se_mt (ps := ["self", "at", "row"]) M_Code_with_row 0 (hr.mono (by decide)) tk (se_var (pv 9)) (sa_cons (se_var (pv 12)) (sa_cons (se_var (pv 14)) sa_nil))) (se_mt (ps := ["self", "at", "note"]) M_Code_with_note 0 (hr.mono (by decide)) tk (se_var (pv 9)) (sa_cons (se_var (pv 12)) (sa_cons (se_var (pv 14)) sa_nil)))))
  (sss_cons (ss_set (i := 16) sc_law.nd rfl (by first | exact Or.inl rfl | exact Or.inr rfl) (se_blty call_list_of opN_list (by exact rfl) T.n_list bo_list (sa_cons (se_var (pv 10)) sa_nil)))
  (sss_cons (ss_asg (S := []) (se_bin op_addA op2_addI (se_bin op_addA op2_addI (se_fz (se_slice (se_ix (se_var (pv 10)) (se_var (pv 13)) (fun _ _ => rfl)) so_none (so_some (se_var (pv 12))))) (se_tup (sa_cons (se_var (pv 14)) sa_nil))) (se_fz (se_slice (se_ix (se_var (pv 10)) (se_var (pv 13)) (fun _ _ => rfl)) (so_some (se_bin op_addA op2_add (se_var (pv 12)) se_int)) so_none))) (sg_ls (se_var (pv 16)) (se_var (pv 13))))
  (sss_cons (ss_if (sw_t (sw_or (st_not (st_tru (se_isi (cv := .ref (ga _ "Code")) T.i_Code (.own _) (by exact rfl) T.n_isinstance (se_var (pv 15)) (pe_own (by exact rfl) T.m_Code)) (fun _ => rfl))) (sw_or (st_cmp (op_neW (Rm.uu hr 80 (by decide))) op2_neW (se_fk (ps := ["_law_code"]) G_law_told 0 (hr.mono (by decide)) tk (by exact rfl) (sa_cons (se_var (pv 15)) sa_nil)) (se_var (pv 16)) rfl) (sw_or1 (st_cmp (op_neW (Rm.uu hr 80 (by decide))) op2_neW (se_fk (ps := ["_law_code"]) G_law_told 0 (hr.mono (by decide)) tk (by exact rfl) (sa_cons (se_var (pv 9)) sa_nil)) (se_var (pv 10)) rfl))))) (sss_one (ss_ret se_bl)) sss_nil)
  (sss_cons (ss_set (i := 17) sc_law.nd rfl (by first | exact Or.inl rfl | exact Or.inr rfl) (se_fk (ps := ["_law_state", "_law_some"]) G_law_pick 0 (hr.mono (by decide)) tk (by exact rfl) (sa_cons (se_var (pv 1)) (sa_cons (se_lstI (sa_cons (se_var (pv 4)) (sa_cons (se_bin op_addA op2_add (se_var (pv 4)) (se_fk (ps := ["_law_state", "_law_many"]) G_law_take 0 (hr.mono (by decide)) tk (by exact rfl) (sa_cons (se_var (pv 1)) (sa_cons se_int sa_nil)))) (sa_cons (se_bin op_sub op2_sub (se_bin op_sub op2_sub se_int se_int) (se_fk (ps := ["_law_state", "_law_many"]) G_law_take 0 (hr.mono (by decide)) tk (by exact rfl) (sa_cons (se_var (pv 1)) (sa_cons se_int sa_nil)))) sa_nil)))) sa_nil))))
  (sss_cons (ss_set (i := 18) sc_law.nd rfl (by first | exact Or.inl rfl | exact Or.inr rfl) (se_fk (ps := ["_law_code", "_law_way", "_law_at"]) G_law_fault 0 (hr.mono (by decide)) tk (by exact rfl) (sa_cons (se_var (pv 9)) (sa_cons (se_var (pv 13)) (sa_cons (se_var (pv 17)) sa_nil)))))
  (sss_cons (ss_if (sw_t (sw_or (st_not (st_tru (se_isi (cv := .ref (ga _ "NoRow")) T.i_NoRowx (.own _) (by exact rfl) T.n_isinstance (se_var (pv 18)) (pe_own (by exact rfl) T.m_NoRow)) (fun _ => rfl))) (sw_or1 (st_tru (se_isiT (cs := [.ref (ga _ "NoBook"), .ref (ga _ "NoInput"), .ref (ga _ "NoStep"), .ref (ga _ "NoText"), .ref (ga _ "NoVow")]) T.it_NoBook_NoInput_NoStep_NoText_NoVowx (.cons (pe_own (by exact rfl) T.m_NoBook) (.own _) (.cons (pe_own (by exact rfl) T.m_NoInput) (.own _) (.cons (pe_own (by exact rfl) T.m_NoStep) (.own _) (.cons (pe_own (by exact rfl) T.m_NoText) (.own _) (.cons (pe_own (by exact rfl) T.m_NoVow) (.own _) ClsD.nil))))) rfl (by exact rfl) T.n_isinstance (se_var (pv 18))) (fun _ => rfl))))) (sss_one (ss_ret se_bl)) sss_nil)
  (sss_cons (ss_if (st_cmp (op_neA (Rm.uu hr 64 (by decide))) op2_ne (se_xfd ["NoRow"] T.xa_at (se_var (pv 18)) rfl) (se_var (pv 17)) rfl) (sss_one (ss_ret se_bl)) sss_nil)
  (sss_one (ss_par (i := 9) (j := 10) rfl sc_law.nd rfl rfl (by decide) rfl rfl (sa_cons (se_var (pv 15)) (sa_cons (se_var (pv 16)) sa_nil)) rfl))))))))))))))
  (sss_one (ss_ret se_bl)))))))))))))
end
end L_k76
namespace L_k76
open PySem L2 Vz
section
variable {QV : AV → Hs → Prop} {QB : Bool → Hs → Prop} {E : XQ} {G : Hs} {ρ : En} {D : SP} {A : Pl.Ad} {fs : List Pl.Fn} {st : Pl.Rs} {d : Nat} {bx : Pl.Bx} {xs : List Int}
theorem in1 (c : Str) : c ∈ [c] := List.mem_singleton.mpr rfl
theorem beqS {a c : String} : ((Str.ofString a : Str) == Str.ofString c) = decide (a = c) := by
  rw [Bool.eq_iff_iff]
  simp [ofS_inj]
theorem fl_funs : (fFld ["Book"] "functions" (Pl.bookA fs) G).wp QV E = QV (.tup (fs.map Pl.Fn.av)) G := fld_iv (in1 _) (by simp [List.lookup, beqS])
theorem fn_name {f : Pl.Fn} {cs : List Str} (h : ("Function" : Str) ∈ cs) : (fFld cs "name" f.av G).wp QV E = QV (.str f.name) G := fld_iv h (by simp [Pl.fnN, List.lookup, beqS])
theorem ringS {stp : (Nat → List AV → Hs → R AV) → Nat → List AV → Hs → R AV} {n j : Nat} : ringF stp (n + 1) j = stp (ringF stp n) j := rfl
end
end L_k76
namespace L_k76
open PySem L2 Vz
section
variable {QV : AV → Hs → Prop} {QB : Bool → Hs → Prop} {E : XQ} {G : Hs} {ρ : En} {D : SP} {A : Pl.Ad} {fs : List Pl.Fn} {st : Pl.Rs} {d : Nat} {bx : Pl.Bx} {xs : List Int}
theorem subs_app : ∀ a c : List Pl.Ex, Pl.subsOf (a ++ c) = Pl.subsOf a ++ Pl.subsOf c
  | [], c => rfl
  | e :: a, c => by simp [Pl.subsOf, subs_app a c]
theorem sl_tup {ys : List AV} {lo hi : Option Int} : (fSl (.tup ys) lo hi G).wp QV E = QV (.tup (cutA ys lo hi)) G := by
  show (if HT.sIx ys.length 0 lo = 0 ∧ HT.sIx ys.length ys.length hi = ys.length then R.ok (.tup ys) G else R.ok (.tup (cutA ys lo hi)) G).wp QV E = _
  by_cases c : HT.sIx ys.length 0 lo = 0 ∧ HT.sIx ys.length ys.length hi = ys.length
  · have e : cutA ys lo hi = ys := by unfold cutA; rw [c.1, c.2, List.drop_zero, Nat.sub_zero, List.take_length]
    rw [if_pos c, e]; rfl
  · rw [if_neg c]; rfl
theorem cut_fromN {ys : List AV} {k : Nat} (h : k ≤ ys.length) : cutA ys (some (k : Int)) none = ys.drop k := by
  have e : HT.sIx ys.length 0 (some (k : Int)) = k := by rw [HT.sIx_nat]; exact Nat.min_eq_left h
  have e2 : HT.sIx ys.length ys.length none = ys.length := rfl
  unfold cutA
  rw [e, e2]
  exact List.take_of_length_le (by rw [List.length_drop]; omega)
theorem parts_wp {e : Pl.Ex} (hq : ∀ G', Kp 0 G G' → QV (.tup (e.parts.map Pl.Ex.av)) G') : (f_parts_of [e.av] G).wp QV E := by
  have esz := szl_eq
  have inq : ∀ (w : Str) (G : Hs) (Q : AV → Hs → Prop) (E : XQ), (fIn (.str w) (.con [.str "plus", .str "less", .str "times", .str "under", .str "same"]) G).wp Q E = Q (.bl (([("plus" : Str), "less", "times", "under", "same"]).any fun y => y == w)) G := fun w G Q E => in_conS (xs := ["plus", "less", "times", "under", "same"])
  unfold f_parts_of b_parts_of
  have cut1 : ∀ (v : AV) (r : List AV), cutA (v :: r) (some 1) none = r := fun v r => by
    have := cut_fromN (ys := v :: r) (k := 1) (by simp)
    simpa using this
  cases e with
  | sum k a b =>
    have hk : (([("plus" : Str), "less", "times", "under", "same"]).any fun y => y == k.word) = true := by cases k <;> decide +kernel
    unfold Pl.Ex.av
    simp_arith [inq, hk, wp_fz]
    rw [sl_tup]
    simp_arith [cut1]
    exact hq _ (Kp.refl _ _)
  | extra e =>
    have hk : (([("plus" : Str), "less", "times", "under", "same"]).any fun y => y == ("extra" : Str)) = false := by decide +kernel
    unfold Pl.Ex.av
    simp_arith [inq, hk, wp_fz]
    rw [sl_tup]
    simp_arith [cut1]
    exact hq _ (Kp.refl _ _)
  | num n =>
    have hk : (([("plus" : Str), "less", "times", "under", "same"]).any fun y => y == ("number" : Str)) = false := by decide +kernel
    unfold Pl.Ex.av
    simp_arith [inq, hk, ofS_inj, String.reduceEq]
    exact hq _ (Kp.refl _ _)
  | box n =>
    have hk : (([("plus" : Str), "less", "times", "under", "same"]).any fun y => y == ("box" : Str)) = false := by decide +kernel
    unfold Pl.Ex.av
    simp_arith [inq, hk, ofS_inj, String.reduceEq]
    exact hq _ (Kp.refl _ _)
  | ref n =>
    have hk : (([("plus" : Str), "less", "times", "under", "same"]).any fun y => y == ("ref" : Str)) = false := by decide +kernel
    unfold Pl.Ex.av
    simp_arith [inq, hk, ofS_inj, String.reduceEq]
    exact hq _ (Kp.refl _ _)
  | many =>
    have hk : (([("plus" : Str), "less", "times", "under", "same"]).any fun y => y == ("many" : Str)) = false := by decide +kernel
    unfold Pl.Ex.av
    simp_arith [inq, hk, ofS_inj, String.reduceEq]
    exact hq _ (Kp.refl _ _)
theorem within_wp : ∀ (n : Nat) (es : List Pl.Ex) (G : Hs) (QV : AV → Hs → Prop) (E : XQ), Pl.exsDep es < n → Pl.exsDep es ≤ 12 → es.length ≤ 1000 → (∀ G', Kp 0 G G' → QV (.ls ((Pl.subsOf es).map Pl.Ex.av)) G') →
    (ringF step_all_within n 0 [.tup (es.map Pl.Ex.av)] G).wp QV E
  | 0, es, G, QV, E, h, _, _, _ => absurd h (Nat.not_lt_zero _)
  | n + 1, es, G, QV, E, h, h12, hl, hq => by
    have esz := szl_eq
    have ih := within_wp n
    rw [ringS]
    show (mFn 3 (b_all_within (ringF step_all_within n)) _ G).wp QV E
    unfold b_all_within
    generalize hR : ringF step_all_within n 0 = F at ih
    generalize ringF step_all_within n = rr at hR
    simp_arith []
    unfold k_all_within_2
    rw [wp_seq]
    have bnd : ∀ l : List Pl.Ex, Pl.exsDep l ≤ 12 → l.length ≤ 1000 → (Pl.subsOf l).length ≤ 4096000 := fun l h1 h2 => by
      have := Pl.subsOf_len (n := 12) l h1
      omega
    have hdt : ∀ j, Pl.exsDep (es.take j) ≤ 12 := fun j => by
      refine Nat.le_trans ?_ h12
      generalize hm : es.take j = t
      have hs : ∀ x ∈ t, x ∈ es := fun x hx => List.mem_of_mem_take (hm ▸ hx)
      clear hm hq
      induction t with
      | nil => exact Nat.zero_le _
      | cons x t iht =>
        simp only [Pl.exsDep]
        have h1 := Pl.exsDep_mem (hs x (List.mem_cons_self ..))
        have h2 := iht fun y hy => hs y (List.mem_cons_of_mem _ hy)
        omega
    refine wp_forK (k := (es.map Pl.Ex.av, none)) (G0 := G ++ [.lst []]) (wk_ok rfl rfl) (fun j ρ G' => ∃ a2, ρ = [some (.tup (es.map Pl.Ex.av)), some (.ref G.length), a2] ∧ G'[G.length]? = some (.lst ((Pl.subsOf (es.take j)).map Pl.Ex.av)) ∧ Kp 0 G G')
      ⟨_, rfl, by simp [Pl.subsOf], Kp.app _ _ _⟩ (fun _ _ _ _ _ => True.intro) (fun j v ρ G' hv ⟨a2, er, hn, k⟩ => ?_) fun ρ G' ⟨a2, er, hn, k⟩ => ?_
    · subst er
      have hv : (es.map Pl.Ex.av)[j]? = some v := hv
      rw [List.getElem?_map] at hv
      obtain ⟨e, he, rfl⟩ := Option.map_eq_some_iff.mp hv
      have hj := (List.getElem?_eq_some_iff.mp he).1
      have hem := List.mem_of_getElem? he
      have hed := Pl.exsDep_mem hem
      have et : es.take (j + 1) = es.take j ++ [e] := by rw [List.take_succ, he]; rfl
      have b1 := bnd _ (hdt j) (by rw [List.length_take]; omega)
      have b2 := bnd _ (hdt (j + 1)) (by rw [List.length_take]; omega)
      unfold l_all_within_2
      simp_arith [isL_L hn, wp_appL hn]
      refine ⟨by rw [List.length_map]; omega, ?_⟩
      have hn2 : (G'.set G.length (.lst ((Pl.subsOf (es.take j)).map Pl.Ex.av ++ [e.av])))[G.length]? = some (.lst ((Pl.subsOf (es.take j)).map Pl.Ex.av ++ [e.av])) := List.getElem?_set_self (List.getElem?_eq_some_iff.mp hn).1
      have k2 : Kp 0 G (G'.set G.length (.lst ((Pl.subsOf (es.take j)).map Pl.Ex.av ++ [e.av]))) := k.setN (Nat.le_refl _)
      generalize G'.set G.length (.lst ((Pl.subsOf (es.take j)).map Pl.Ex.av ++ [e.av])) = G2 at hn2 k2
      unfold k_all_within_4
      simp_arith [isL_L hn2]
      refine parts_wp fun G3 k3 => ?_
      simp_arith []
      rw [hR]
      have hp := Pl.parts_dep e
      have hp1 := Pl.dep_pos e
      have hp0 : e.parts = [] → Pl.exsDep e.parts = 0 := fun q => by rw [q]; rfl
      refine ih e.parts _ _ _ (by rcases hp with q | q; omega; rw [hp0 q]; omega) (by rcases hp with q | q; omega; rw [hp0 q]; omega) (by cases e <;> simp [Pl.Ex.parts]) fun G4 k4 => ?_
      have hn4 := k4.get0 (k3.get0 hn2)
      simp_arith [isL_L hn4, wp_extA hn4]
      have es2 : (Pl.subsOf (es.take (j + 1))).map Pl.Ex.av = ((Pl.subsOf (es.take j)).map Pl.Ex.av ++ [e.av]) ++ (Pl.subsOf e.parts).map Pl.Ex.av := by
        rw [et, subs_app]
        simp [Pl.subsOf, Pl.subs_parts e]
      refine ⟨?_, _, rfl, ?_, ((k2.trans k3).trans k4).setN (Nat.le_refl _)⟩
      · rw [← List.length_append, ← es2, List.length_map]; omega
      · rw [List.getElem?_set_self (List.getElem?_eq_some_iff.mp hn4).1, es2]
    · subst er
      have hn : G'[G.length]? = some (.lst ((Pl.subsOf (es.take (es.map Pl.Ex.av).length)).map Pl.Ex.av)) := hn
      rw [List.length_map, List.take_length] at hn
      simp_arith [wp_fz]
      rw [fzQ_lst hn]
      exact hq _ (k.setN (Nat.le_refl _))
theorem add_tt {v : AV} {ys : List AV} (h : ys.length + 1 ≤ szl) : (fAddI (.tup [v]) (.tup ys) G).wp QV E = QV (.tup (v :: ys)) G := by
  show (fAdd (.tup [v]) (.tup ys) G).wp QV E = _
  simp only [fAdd, tupOf]
  rw [if_pos (by simp only [List.length_cons, List.length_nil]; omega)]
  cases ys <;> rfl
theorem exps_wp {s : Pl.St} (hs : s.isTry = false) (hl : s.exs.length ≤ 1000) (hq : QV (.tup (s.exs.map Pl.Ex.av)) G) : (f_expressions_of [s.av] G).wp QV E := by
  unfold f_expressions_of b_expressions_of
  unfold k_expressions_of_2 k_expressions_of_4 k_expressions_of_6 k_expressions_of_8 k_expressions_of_10
  cases s with
  | try_ a x b => cases hs
  | at_ t e es =>
    unfold Pl.St.av
    simp_arith [ofS_inj, String.reduceEq, tuple_T]
    rw [add_tt (by rw [List.length_map]; have esz := szl_eq; simp [Pl.St.exs] at hl; omega)]
    exact hq
  | _ =>
    unfold Pl.St.av
    simp_arith [ofS_inj, String.reduceEq]
    exact hq
theorem given_wp {s : Pl.St} (hs : s.isTry = false) (hq : QV (.tup (Pl.strA s.given)) G) : (f_given_by [s.av] G).wp QV E := by
  unfold f_given_by b_given_by
  unfold k_given_by_2 k_given_by_4 k_given_by_6
  cases s with
  | try_ a x b => cases hs
  | _ =>
    unfold Pl.St.av
    simp_arith [ofS_inj, String.reduceEq, tuple_T]
    exact hq
theorem bodies_wp {s : Pl.St} (hs : s.isTry = false) (hq : QV (.tup (s.bodies.map fun b => .tup (Pl.bdA b))) G) : (f_bodies_of [s.av] G).wp QV E := by
  unfold f_bodies_of b_bodies_of
  unfold k_bodies_of_2 k_bodies_of_4 k_bodies_of_6
  cases s with
  | try_ a x b => cases hs
  | _ =>
    unfold Pl.St.av
    simp_arith [ofS_inj, String.reduceEq]
    exact hq
theorem exA_box {e : Pl.Ex} {s : Str} (h : Pl.isBox e = some s) : e.av = .tup [.str "box", .str s] := by
  cases e <;> first | (cases h; rfl) | cases h
theorem read_wp {s : Pl.St} (hs : s.isTry = false) (hf : Pl.stFit s = true) (hq : ∀ G', Kp 0 G G' → QV (.ls (Pl.strA (Pl.esBoxes s.exs))) G') : (f_boxes_read [s.av] G).wp QV E := by
  have esz := szl_eq
  obtain ⟨f1, f2⟩ := Bool.and_eq_true_iff.mp hf
  have f1 := of_decide_eq_true f1
  have f2 := of_decide_eq_true f2
  have bnd := Pl.subsOf_len (n := 12) s.exs f1
  unfold f_boxes_read b_boxes_read
  simp_arith []
  obtain ⟨v0, G0, e0, q0, k0⟩ := (show ((mCall 1 1 0 gAll f_all_within (mCons (mCall 1 1 0 gAll f_expressions_of (mCons (mVar 0) mNil) mNil) mNil) mNil) (startA 2 [s.av]) G).wp (fun v G0 => v = .ls ((Pl.subsOf s.exs).map Pl.Ex.av) ∧ Kp 0 G G0) noX from by
    simp_arith []
    refine exps_wp hs f2 ?_
    simp_arith []
    exact within_wp 20 _ _ _ _ (by omega) f1 f2 fun G' k => ⟨rfl, k⟩).ex
  subst q0
  refine wp_lcG (vs := (Pl.subsOf s.exs).map Pl.Ex.av) (G0 := G0) (wk_ok e0 rfl) k0 (fun v => match v with
    | .tup (.str w :: _) => decide (w = "box")
    | _ => false) (fun v => match v with
    | .tup [_, w] => w
    | _ => .non) (by rw [List.length_map]; omega) (fun v hv G1 k1 => ?_) fun G1 k1 => ?_
  · obtain ⟨e, _, rfl⟩ := List.mem_map.mp hv
    refine ⟨_, rfl, ?_⟩
    cases e with
    | box x =>
      unfold Pl.Ex.av
      simp_arith []
      exact ⟨Kp.refl _ _, fun _ => Kp.refl _ _⟩
    | sum k a b =>
      have hk : ¬ k.word = ("box" : Str) := by cases k <;> simp [Pl.Sk.word, ofS_inj]
      unfold Pl.Ex.av
      simp_arith []
      exact ⟨Kp.refl _ _, fun z => absurd (of_decide_eq_true z) hk⟩
    | _ =>
      unfold Pl.Ex.av
      simp_arith [ofS_inj, String.reduceEq]
      exact ⟨Kp.refl _ _, fun z => z.elim⟩
  · refine Eq.mp ?_ (hq G1 k1)
    congr 1
    rw [Pl.esBoxes_subs]
    unfold Pl.strA
    clear bnd e0 k0 k1 f1
    generalize Pl.subsOf s.exs = l
    congr 1
    induction l with
    | nil => rfl
    | cons e l ih =>
      cases h : Pl.isBox e with
      | some x =>
        rw [List.filterMap_cons_some h, List.map_cons, List.map_cons, exA_box h, List.filter_cons_of_pos (by simp), List.map_cons, ih]
      | none =>
        rw [List.filterMap_cons_none h, List.map_cons, List.filter_cons_of_neg, ih]
        cases e with
        | box x => cases h
        | sum k a b => cases k <;> simp [Pl.Ex.av, Pl.Sk.word, ofS_inj]
        | _ => simp [Pl.Ex.av, ofS_inj]
end
end L_k76
namespace L_k76
open PySem L2 Vz
section
variable {QV : AV → Hs → Prop} {QB : Bool → Hs → Prop} {E : XQ} {G : Hs} {ρ : En} {D : SP} {A : Pl.Ad} {fs : List Pl.Fn} {st s2 : Pl.Rs} {d : Nat} {bx b2 : Pl.Bx} {xs : List Int} {o : Pl.Ops} {F : Nat → List AV → Hs → R AV} {out : Pl.Out}
theorem bdA_map : ∀ l : List Pl.St, Pl.bdA l = l.map Pl.St.av
  | [] => by simp [Pl.bdA]
  | s :: r => by simp [Pl.bdA, bdA_map r]
theorem mem_dep {s : Pl.St} : ∀ {l : List Pl.St}, s ∈ l → s.dep ≤ Pl.bdDep l
  | [], h => nomatch h
  | x :: r, h => by
    simp only [Pl.bdDep]
    rcases List.mem_cons.mp h with q | q
    · subst q; omega
    · have := mem_dep q; omega
theorem strA_app (a c : List Str) : Pl.strA (a ++ c) = Pl.strA a ++ Pl.strA c := by simp [Pl.strA]
theorem strA_len (a : List Str) : (Pl.strA a).length = a.length := List.length_map ..
theorem list_tup {ys : List AV} : (fListI [.tup ys] G).wp QV E = QV (.ls ys) G := rfl
theorem fn_params {f : Pl.Fn} {cs : List Str} (h : ("Function" : Str) ∈ cs) : (fFld cs "params" f.av G).wp QV E = QV (.tup (Pl.strA f.params)) G := fld_iv h (by simp [Pl.fnN, List.lookup, beqS])
theorem fn_bodyF {f : Pl.Fn} {cs : List Str} (h : ("Function" : Str) ∈ cs) : (fFld cs "body" f.av G).wp QV E = QV (.tup (Pl.bdA f.body)) G := fld_iv h (by simp [Pl.fnN, List.lookup, beqS])
theorem fn_results {f : Pl.Fn} {cs : List Str} (h : ("Function" : Str) ∈ cs) : (fFld cs "results" f.av G).wp QV E = QV (.int f.results) G := fld_iv h (by simp [Pl.fnN, List.lookup, beqS])
theorem fn_more {f : Pl.Fn} {cs : List Str} (h : ("Function" : Str) ∈ cs) : (fFld cs "more" f.av G).wp QV E = QV (.bl f.more) G := fld_iv h (by simp [Pl.fnN, List.lookup, beqS])
theorem fn_fit {f : Pl.Fn} (h : f.fit = true) : Pl.bdAll Pl.stFit f.body = true ∧ Pl.bdDep f.body ≤ 12 ∧ f.params.length ≤ 1000 ∧ (f.params ++ Pl.bdBoxes f.body).length ≤ 100000 := by
  unfold Pl.Fn.fit at h
  simp only [Bool.and_eq_true, decide_eq_true_eq] at h
  exact ⟨h.1.1.1, h.1.1.2, h.1.2, h.2⟩
theorem takes_wp {f : Pl.Fn} {n : Nat} (hq : QV (.bl (Pl.takes f n)) G) : (f_takes [f.av, .int n] G).wp QV E := by
  unfold f_takes b_takes
  simp_arith []
  rw [fn_params (in1 _)]
  simp_arith []
  rw [len_T, strA_len]
  simp_arith []
  unfold Pl.takes at hq
  by_cases c : n = f.params.length
  · rw [decide_eq_true (by omega)]
    rw [decide_eq_true c] at hq
    simp_arith []
    exact hq
  · rw [decide_eq_false (by omega)]
    rw [decide_eq_false c] at hq
    simp_arith []
    rw [fn_more (in1 _)]
    cases hm : f.more with
    | false =>
      rw [hm] at hq
      simp_arith []
      exact hq
    | true =>
      rw [hm] at hq
      simp_arith []
      rw [fn_params (in1 _)]
      simp_arith []
      rw [len_T, strA_len]
      simp_arith []
      have e : decide ((f.params.length : Int) < (n : Int)) = decide (f.params.length < n) := by
        by_cases c2 : f.params.length < n
        · rw [decide_eq_true c2, decide_eq_true (by omega)]
        · rw [decide_eq_false c2, decide_eq_false (by omega)]
      rw [e]
      exact hq
end
end L_k76
namespace L_k76
open PySem L2 Vz
mutual
def stSts : Pl.St → List Pl.St
  | .ite c a b => .ite c a b :: (bdSts a ++ bdSts b)
  | .whl c b => .whl c b :: bdSts b
  | .try_ a x b => .try_ a x b :: (bdSts a ++ bdSts b)
  | s => [s]
/-- all statements of a body, each ahead of those in its bodies -/
def bdSts : List Pl.St → List Pl.St
  | [] => []
  | s :: r => stSts s ++ bdSts r
end
def givenB : Pl.St → List Str
  | .try_ _ x _ => [x]
  | s => s.given
def bodiesB : Pl.St → List (List Pl.St)
  | .try_ a _ b => [a, b]
  | s => s.bodies
def bdsSts : List (List Pl.St) → List Pl.St
  | [] => []
  | b :: r => bdSts b ++ bdsSts r
theorem stSts_eq (s : Pl.St) : stSts s = s :: bdsSts (bodiesB s) := by
  cases s <;> simp [stSts, bodiesB, bdsSts, Pl.St.bodies]
theorem bdS_app : ∀ a c : List Pl.St, bdSts (a ++ c) = bdSts a ++ bdSts c
  | [], c => by simp [bdSts]
  | s :: a, c => by simp [bdSts, bdS_app a c]
theorem bdsS_app : ∀ a c : List (List Pl.St), bdsSts (a ++ c) = bdsSts a ++ bdsSts c
  | [], c => rfl
  | s :: a, c => by simp [bdsSts, bdsS_app a c]
def RES : List Str := ["number", "plus", "less", "times", "under", "same", "ref", "many", "extra", "fn", "set", "say", "if", "else", "while", "call", "at", "return", "throw", "try", "catch", "end", "more"]
def LET : Str := "abcdefghijklmnopqrstuvwxyz"
def inL (c : Nat) : Bool := decide (c ∈ LET.cps.toList)
/-- what is_name answers -/
def isN (w : Str) : Bool := if w.length < 1 ∨ 8 < w.length ∨ (RES.any fun y => y == w) = true then false else w.cps.toList.all inL
section
variable {QV : AV → Hs → Prop} {QB : Bool → Hs → Prop} {E : XQ} {G : Hs} {ρ : En} {D : SP} {A : Pl.Ad} {fs : List Pl.Fn} {st s2 : Pl.Rs} {d : Nat} {bx b2 : Pl.Bx} {xs : List Int} {out : Pl.Out}
theorem try_av {a b : List Pl.St} {x : Str} : Pl.St.av (.try_ a x b) = .tup [.str "try", .tup (Pl.bdA a), .str x, .tup (Pl.bdA b)] := by simp only [Pl.St.av]
theorem given2_wp {s : Pl.St} (hq : QV (.tup (Pl.strA (givenB s))) G) : (f_given_by [s.av] G).wp QV E := by
  cases s with
  | try_ a x b =>
    rw [try_av]
    unfold f_given_by b_given_by
    unfold k_given_by_2 k_given_by_4 k_given_by_6
    simp_arith [ofS_inj, String.reduceEq]
    exact hq
  | _ => exact given_wp rfl hq
theorem bodies2_wp {s : Pl.St} (hq : QV (.tup ((bodiesB s).map fun b => .tup (Pl.bdA b))) G) : (f_bodies_of [s.av] G).wp QV E := by
  cases s with
  | try_ a x b =>
    rw [try_av]
    unfold f_bodies_of b_bodies_of
    unfold k_bodies_of_2 k_bodies_of_4 k_bodies_of_6
    simp_arith [ofS_inj, String.reduceEq]
    exact hq
  | _ => exact bodies_wp rfl hq
theorem exps2_wp {s : Pl.St} (hl : s.exs.length ≤ 1000) (hq : QV (.tup (s.exs.map Pl.Ex.av)) G) : (f_expressions_of [s.av] G).wp QV E := by
  cases s with
  | try_ a x b =>
    rw [try_av]
    unfold f_expressions_of b_expressions_of
    unfold k_expressions_of_2 k_expressions_of_4 k_expressions_of_6 k_expressions_of_8 k_expressions_of_10
    simp_arith [ofS_inj, String.reduceEq]
    exact hq
  | _ => exact exps_wp rfl hl hq
theorem read2_wp {s : Pl.St} (hf : Pl.stFit s = true) (hq : ∀ G', Kp 0 G G' → QV (.ls (Pl.strA (Pl.esBoxes s.exs))) G') : (f_boxes_read [s.av] G).wp QV E := by
  cases s with
  | try_ a x b =>
    unfold f_boxes_read b_boxes_read
    simp_arith []
    obtain ⟨v0, G0, e0, q0, k0⟩ := (show ((mCall 1 1 0 gAll f_all_within (mCons (mCall 1 1 0 gAll f_expressions_of (mCons (mVar 0) mNil) mNil) mNil) mNil) (startA 2 [Pl.St.av (.try_ a x b)]) G).wp (fun v G0 => v = .ls ((Pl.subsOf []).map Pl.Ex.av) ∧ Kp 0 G G0) noX from by
      simp_arith []
      refine exps2_wp (by simp [Pl.St.exs]) ?_
      simp_arith []
      exact within_wp 20 [] _ _ _ (by simp [Pl.exsDep]) (by simp [Pl.exsDep]) (by simp) fun G' k => ⟨rfl, k⟩).ex
    subst q0
    refine wp_lcG (vs := []) (G0 := G0) (wk_ok e0 rfl) k0 (fun v => false) (fun v => v) (by simp) (fun v hv G1 k1 => ?_) fun G1 k1 => ?_
    · cases hv
    · exact hq G1 k1
  | _ => exact read_wp rfl hf hq
theorem bodB_fit {s : Pl.St} {b : List Pl.St} (hb : b ∈ bodiesB s) : Pl.bdDep b + 1 ≤ s.dep := by
  cases s <;> simp only [bodiesB, Pl.St.bodies, List.mem_cons, List.not_mem_nil, or_false] at hb <;> simp only [Pl.St.dep]
  · rcases hb with q | q <;> subst q <;> omega
  · subst hb; omega
  · rcases hb with q | q <;> subst q <;> omega
theorem sts_wp : ∀ (n : Nat) (body : List Pl.St) (G : Hs) (QV : AV → Hs → Prop) (E : XQ), Pl.bdDep body < n → (bdSts body).length ≤ 100000 → (∀ G', Kp 0 G G' → QV (.ls ((bdSts body).map Pl.St.av)) G') →
    (ringF step_statements_of n 0 [.tup (Pl.bdA body)] G).wp QV E
  | 0, body, G, QV, E, h, _, _ => absurd h (Nat.not_lt_zero _)
  | n + 1, body, G, QV, E, h, hl, hq => by
    have esz := szl_eq
    have ih := sts_wp n
    rw [ringS, bdA_map]
    show (mFn 4 (b_statements_of (ringF step_statements_of n)) _ G).wp QV E
    unfold b_statements_of
    generalize hR : ringF step_statements_of n 0 = F at ih
    generalize ringF step_statements_of n = rr at hR
    simp_arith []
    unfold k_statements_of_2
    rw [wp_seq]
    have pre : ∀ j, (bdSts (body.take j)).length ≤ 100000 := fun j => by
      have := bdS_app (body.take j) (body.drop j)
      rw [List.take_append_drop] at this
      have := congrArg List.length this
      rw [List.length_append] at this
      omega
    refine wp_forK (k := (body.map Pl.St.av, none)) (G0 := G ++ [.lst []]) (wk_ok rfl rfl) (fun j ρ G' => ∃ a2 a3, ρ = [some (.tup (body.map Pl.St.av)), some (.ref G.length), a2, a3] ∧ G'[G.length]? = some (.lst ((bdSts (body.take j)).map Pl.St.av)) ∧ Kp 0 G G')
      ⟨_, _, rfl, by simp [bdSts], Kp.app _ _ _⟩ (fun _ _ _ _ _ => True.intro) (fun j v ρ G' hv ⟨a2, a3, er, hn, k⟩ => ?_) fun ρ G' ⟨a2, a3, er, hn, k⟩ => ?_
    · subst er
      have hv : (body.map Pl.St.av)[j]? = some v := hv
      rw [List.getElem?_map] at hv
      obtain ⟨s, hs, rfl⟩ := Option.map_eq_some_iff.mp hv
      have hsd := mem_dep (List.mem_of_getElem? hs)
      have et : body.take (j + 1) = body.take j ++ [s] := by rw [List.take_succ, hs]; rfl
      have b1 := pre j
      have b2 := pre (j + 1)
      have eb : bdSts (body.take (j + 1)) = bdSts (body.take j) ++ (s :: bdsSts (bodiesB s)) := by
        rw [et, bdS_app, ← stSts_eq]; simp [bdSts]
      have b3 := b2
      rw [eb, List.length_append, List.length_cons] at b3
      unfold l_statements_of_2
      simp_arith [isL_L hn, wp_appL hn]
      refine ⟨by rw [List.length_map]; omega, ?_⟩
      have k2 : Kp 0 G (G'.set G.length (.lst ((bdSts (body.take j)).map Pl.St.av ++ [s.av]))) := k.setN (Nat.le_refl _)
      have hn2 : (G'.set G.length (.lst ((bdSts (body.take j)).map Pl.St.av ++ [s.av])))[G.length]? = some (.lst ((bdSts (body.take j) ++ [s]).map Pl.St.av)) := by
        rw [Pl.set_self hn, List.map_append]; rfl
      generalize G'.set G.length (.lst ((bdSts (body.take j)).map Pl.St.av ++ [s.av])) = G2 at k2 hn2
      unfold k_statements_of_4
      obtain ⟨v0, G0, e0, q0, k0⟩ := (show ((mCall 1 1 0 gAll f_bodies_of (mCons (mVar 2) mNil) mNil) [some (.tup (body.map Pl.St.av)), some (.ref G.length), some s.av, a3] G2).wp (fun v G0 => v = .tup ((bodiesB s).map fun b => .tup (Pl.bdA b)) ∧ G0 = G2) noX from by
        simp_arith []
        refine bodies2_wp ?_
        exact ⟨rfl, rfl⟩).ex
      subst q0 k0
      refine wp_forK (k := ((bodiesB s).map fun b => AV.tup (Pl.bdA b), none)) (wk_ok e0 rfl) (fun i ρ G' => ∃ a3, ρ = [some (.tup (body.map Pl.St.av)), some (.ref G.length), some s.av, a3] ∧ G'[G.length]? = some (.lst ((bdSts (body.take j) ++ [s] ++ bdsSts ((bodiesB s).take i)).map Pl.St.av)) ∧ Kp 0 G G')
        ⟨_, rfl, by rw [hn2]; simp [bdsSts], k2⟩ (fun _ _ _ _ _ => True.intro) (fun i v ρ G3 hv ⟨a3, er, hn3, k3⟩ => ?_) fun ρ G3 ⟨a3, er, hn3, k3⟩ => ?_
      · subst er
        have hv : ((bodiesB s).map fun b => AV.tup (Pl.bdA b))[i]? = some v := hv
        rw [List.getElem?_map] at hv
        obtain ⟨b, hb, rfl⟩ := Option.map_eq_some_iff.mp hv
        have bd := bodB_fit (List.mem_of_getElem? hb)
        have et2 : (bodiesB s).take (i + 1) = (bodiesB s).take i ++ [b] := by rw [List.take_succ, hb]; rfl
        have e5 : bdsSts ((bodiesB s).take (i + 1)) = bdsSts ((bodiesB s).take i) ++ bdSts b := by rw [et2, bdsS_app]; simp [bdsSts]
        have b6 : (bdsSts ((bodiesB s).take (i + 1))).length ≤ (bdsSts (bodiesB s)).length := by
          have := bdsS_app ((bodiesB s).take (i + 1)) ((bodiesB s).drop (i + 1))
          rw [List.take_append_drop] at this
          have := congrArg List.length this
          rw [List.length_append] at this
          omega
        rw [e5, List.length_append] at b6
        unfold l_statements_of_4
        simp_arith [isL_L hn3]
        rw [hR]
        refine ih b _ _ _ (by omega) (by omega) fun G4 k4 => ?_
        have hn4 := k4.get0 hn3
        simp_arith [wp_extA hn4]
        refine ⟨by rw [List.length_map, List.length_map, List.length_append, List.length_append]; simp only [List.length_cons, List.length_nil]; omega, _, rfl, ?_, (k3.trans k4).setN (Nat.le_refl _)⟩
        rw [Pl.set_self hn4, ← List.map_append, e5, List.append_assoc _ (bdsSts _)]
      · subst er
        have hn3 : G3[G.length]? = some (.lst ((bdSts (body.take j) ++ [s] ++ bdsSts ((bodiesB s).take ((bodiesB s).map fun b => AV.tup (Pl.bdA b)).length)).map Pl.St.av)) := hn3
        rw [List.length_map, List.take_length] at hn3
        refine ⟨_, _, rfl, ?_, k3⟩
        rw [hn3, eb, List.append_assoc]
        rfl
    · subst er
      have hn : G'[G.length]? = some (.lst ((bdSts (body.take (body.map Pl.St.av).length)).map Pl.St.av)) := hn
      rw [List.length_map, List.take_length] at hn
      simp_arith [wp_fz]
      rw [fzQ_lst hn]
      exact hq _ (k.setN (Nat.le_refl _))
theorem name_wp {w : Str} (hz : w.length ≤ szl) (hq : ∀ G', Kp 0 G G' → QV (.bl (isN w)) G') : (f_is_name [.str w] G).wp QV E := by
  unfold f_is_name b_is_name
  have hR : (AV.con [.str "number", .str "plus", .str "less", .str "times", .str "under", .str "same", .str "ref", .str "many", .str "extra", .str "fn", .str "set", .str "say", .str "if", .str "else", .str "while", .str "call", .str "at", .str "return", .str "throw", .str "try", .str "catch", .str "end", .str "more"]) = .con (RES.map .str) := rfl
  rw [hR]
  simp_arith [len_S, in_conS]
  have fin : ∀ bb : Bool, isN w = bb → QV (.bl bb) G := fun bb e => by rw [← e]; exact hq _ (Kp.refl _ _)
  refine ⟨hz, ?_⟩
  by_cases h1 : (w.length : Int) < 1
  · rw [show decide ((w.length : Int) < 1) = true from decide_eq_true h1]
    simp_arith []
    exact fin _ (by unfold isN; rw [if_pos (.inl (by omega))])
  rw [show decide ((w.length : Int) < 1) = false from decide_eq_false h1]
  simp_arith [len_S]
  refine ⟨hz, ?_⟩
  by_cases h2 : (8 : Int) < w.length
  · rw [show decide ((8 : Int) < w.length) = true from decide_eq_true h2]
    simp_arith []
    exact fin _ (by unfold isN; rw [if_pos (.inr (.inl (by omega)))])
  rw [show decide ((8 : Int) < w.length) = false from decide_eq_false h2]
  simp_arith [in_conS]
  cases h3 : RES.any fun y => y == w with
  | true =>
    simp_arith []
    exact fin _ (by unfold isN; rw [if_pos (.inr (.inr h3))])
  | false =>
    simp_arith []
    unfold k_is_name_3
    simp_arith []
    rw [wp_fz]
    refine wp_lcP (fun _ => true) (fun v => .bl (match v with
      | .str s => inL (s.cps.toList.headD 0)
      | _ => false)) ?_
    simp_arith [wkOf]
    have hl : w.cps.toList.length = w.length := by simp [Str.length]
    refine ⟨by rw [List.length_map, hl]; exact hz, True.intro, fun v hv acc => ?_, ?_⟩
    · obtain ⟨c, _, rfl⟩ := List.mem_map.mp hv
      exact ⟨_, rfl, fun _ => rfl⟩
    · have hf : ∀ l : List AV, l.filter (fun _ => true) = l := fun l => List.filter_eq_self.mpr fun _ _ => rfl
      rw [hf, List.map_map]
      have hm : (w.cps.toList.map (((fun v => AV.bl (match v with
        | .str s => inL (s.cps.toList.headD 0)
        | _ => false))) ∘ fun c => AV.str ⟨#[c]⟩)) = (w.cps.toList.map inL).map AV.bl := by
        rw [List.map_map]
        rfl
      rw [hm, fzQ_lst (xs := (w.cps.toList.map inL).map AV.bl) (by simp)]
      simp_arith []
      rw [all_ls (bs := w.cps.toList.map inL)]
      have e : isN w = (w.cps.toList.map inL).all id := by
        unfold isN
        rw [if_neg (by rw [h3]; simp; omega), List.all_map]
        rfl
      rw [← e]
      exact hq _ ((Kp.app 0 G _).setN (Nat.le_refl _))
end
end L_k76
namespace L_k76
open PySem L2 Vz
/-- the function of a name -/
def fnOf (fs : List Pl.Fn) (g : Str) : Option Pl.Fn := fs.find? fun f => decide (f.name = g)
def callOk (fs : List Pl.Fn) : Pl.St → Bool
  | .call ts g es => match fnOf fs g with
    | some f => decide (f.results = ts.length) && Pl.takes f es.length
    | none => false
  | _ => true
def refOk (fs : List Pl.Fn) : Pl.Ex → Bool
  | .ref g => match fnOf fs g with
    | some f => decide (f.results = 1)
    | none => false
  | _ => true
def retOk (f : Pl.Fn) : Pl.St → Bool
  | .ret es => decide (es.length = f.results)
  | _ => true
def fewOk : Pl.Ex → Bool
  | .many => false
  | .extra _ => false
  | _ => true
abbrev nmOk (w : Str) : Bool := isN w
/-- nothing is wrong in a statement -/
def okSt (fs : List Pl.Fn) (f : Pl.Fn) (s : Pl.St) : Bool := (givenB s ++ Pl.esBoxes s.exs).all nmOk && callOk fs s && (Pl.subsOf s.exs).all (refOk fs) && retOk f s && (f.more || (Pl.subsOf s.exs).all fewOk) && Pl.stFit s && decide ((givenB s ++ Pl.esBoxes s.exs).length ≤ 100000)
def okFn (fs : List Pl.Fn) (f : Pl.Fn) : Bool := isN f.name && f.params.all nmOk && decide f.params.Nodup && (bdSts f.body).all (okSt fs f) && decide ((bdSts f.body).length ≤ 100000) && f.fit
/-- a book that is taken -/
def bookOk (fs : List Pl.Fn) : Bool := fs.all (okFn fs) && decide (fs.map Pl.Fn.name).Nodup && decide (fs.length ≤ 1000) && (match fs with
  | f :: _ => !f.more
  | [] => false)
/-- what is known of a book's functions, by their names -/
def Kn (fs : List Pl.Fn) (v : AV) : Prop := ∃ ks vs, v = .id ks vs ∧ ∀ g : Str, getA (ks.zip vs) (.inr g) = (fnOf fs g).map Pl.Fn.av
section
variable {QV : AV → Hs → Prop} {QB : Bool → Hs → Prop} {E : XQ} {G : Hs} {ρ : En} {D : SP} {A : Pl.Ad} {fs : List Pl.Fn} {st s2 : Pl.Rs} {d : Nat} {bx b2 : Pl.Bx} {xs : List Int} {out : Pl.Out} {kn : AV} {f : Pl.Fn}
theorem isN_len {w : Str} (h : isN w = true) : w.length ≤ 8 := by
  unfold isN at h
  split at h
  · cases h
  · rename_i h1; omega
theorem nm_wp {w : Str} (h : isN w = true) (hq : ∀ G', Kp 0 G G' → QV (.bl true) G') : (f_is_name [.str w] G).wp QV E := by
  have := isN_len h
  have esz := szl_eq
  refine name_wp (by omega) fun G' k => ?_
  rw [h]
  exact hq G' k
theorem kn_get {g : Str} (hk : Kn fs kn) : (fDgo kn (.str g) .non G).wp QV E = QV (match fnOf fs g with
    | some f => f.av
    | none => .non) G := by
  obtain ⟨ks, vs, rfl, h⟩ := hk
  unfold fDgo
  simp only [dkR, kOf, h g]
  cases fnOf fs g <;> rfl
theorem kn_dg {g : Str} (hk : Kn fs kn) (hf : fnOf fs g = some f) : (fDg kn (.str g) G).wp QV E = QV f.av G := by
  obtain ⟨ks, vs, rfl, h⟩ := hk
  unfold fDg
  simp only [dkR, kOf, h g, hf, Option.map_some]
  rfl
theorem kn_nin {g : Str} (hk : Kn fs kn) : (fNinK (.str g) kn G).wp QV E = QV (.bl (!(fnOf fs g).isSome)) G := by
  obtain ⟨ks, vs, rfl, h⟩ := hk
  unfold fNinK
  simp only [dkR, kOf, h g, Option.isSome_map]
  rfl
theorem kn_dk (hk : Kn fs kn) : (dkR G kn).isSome = true := by
  obtain ⟨ks, vs, rfl, h⟩ := hk
  rfl
theorem isN_iv {c : Str} {ns : List Str} {xs : List AV} : (fIsN (.iv c ns xs) .non G).wp QV E = QV (.bl false) G := rfl
theorem call_wp {s : Pl.St} (hk : Kn fs kn) (h : callOk fs s = true) (hq : QV (.bl false) G) : (f_call_is_wrong [s.av, kn] G).wp QV E := by
  unfold f_call_is_wrong b_call_is_wrong
  cases s with
  | call ts g es =>
    have avE : Pl.St.av (.call ts g es) = .tup [.str "call", .tup (Pl.strA ts), .str g, .tup (es.map Pl.Ex.av)] := by simp only [Pl.St.av]; rfl
    rw [avE]
    simp_arith []
    unfold k_call_is_wrong_3
    simp_arith [wp_dget1]
    refine ⟨kn_dk hk, ?_⟩
    rw [kn_get hk]
    simp only [callOk] at h
    cases hf : fnOf fs g with
    | none => rw [hf] at h; cases h
    | some f =>
      rw [hf] at h
      obtain ⟨h1, h2⟩ := Bool.and_eq_true_iff.mp h
      have h1 := of_decide_eq_true h1
      unfold k_call_is_wrong_4
      simp_arith []
      show ((fIsN f.av .non G).wp _ _ : Prop)
      show ((fIsN (.iv _ _ _) .non G).wp _ _ : Prop)
      rw [isN_iv]
      simp_arith []
      rw [fn_results (by simp)]
      simp_arith []
      rw [len_T, strA_len]
      simp_arith []
      rw [decide_eq_true (show (f.results : Int) = ts.length by omega)]
      simp_arith []
      unfold k_call_is_wrong_6
      simp_arith []
      rw [len_T, List.length_map]
      refine takes_wp ?_
      rw [h2]
      exact hq
  | try_ a x b =>
    rw [try_av]
    simp_arith [ofS_inj, String.reduceEq]
    exact hq
  | _ =>
    unfold Pl.St.av
    simp_arith [ofS_inj, String.reduceEq]
    exact hq
theorem wrong_wp {s : Pl.St} (hk : Kn fs kn) (h : okSt fs f s = true) (hq : ∀ G', Kp 0 G G' → QV .non G') : (f_wrong_in [f.av, s.av, kn] G).wp QV E := by
  have esz := szl_eq
  unfold okSt at h
  simp only [Bool.and_eq_true, decide_eq_true_eq] at h
  obtain ⟨⟨⟨⟨⟨⟨hn, hc⟩, hr⟩, hret⟩, hm⟩, hf⟩, hlen⟩ := h
  have hf2 := hf
  obtain ⟨f1, f2⟩ := Bool.and_eq_true_iff.mp hf2
  have f1 := of_decide_eq_true f1
  have f2 := of_decide_eq_true f2
  unfold f_wrong_in b_wrong_in
  simp_arith []
  refine exps2_wp f2 ?_
  simp_arith []
  refine within_wp 20 _ _ _ _ (by omega) f1 f2 fun G1 k1 => ?_
  unfold k_wrong_in_2
  simp_arith []
  rw [wp_fz]
  obtain ⟨v0, G0, e0, q0, k0⟩ := (show ((m2 fAddI (mBlt fListI (mCons (mCall 1 1 0 gAll f_given_by (mCons (mVar 1) mNil) mNil) mNil)) (mCall 1 1 0 gAll f_boxes_read (mCons (mVar 1) mNil) mNil)) [some f.av, some s.av, some kn, some (.ls ((Pl.subsOf s.exs).map Pl.Ex.av)), none, none, none] G1).wp (fun v G0 => v = .ls (Pl.strA (givenB s ++ Pl.esBoxes s.exs)) ∧ Kp 0 G1 G0) noX from by
    simp_arith []
    refine given2_wp ?_
    rw [list_tup]
    refine read2_wp hf fun G2 k2 => ?_
    simp_arith []
    rw [List.length_append] at hlen
    refine ⟨by rw [strA_len, strA_len]; omega, by rw [strA_app], k2⟩).ex
  subst q0
  rw [← wp_fz]
  refine wp_lcM (vs := Pl.strA (givenB s ++ Pl.esBoxes s.exs)) (G0 := G0) (wk_ok e0 rfl) k0 (fun _ => .bl true) (by rw [strA_len]; omega) (fun v hv G2 k2 => ?_) fun G2 k2 => ?_
  · obtain ⟨w, hw, rfl⟩ := List.mem_map.mp hv
    refine ⟨_, rfl, ?_⟩
    simp_arith []
    exact nm_wp (List.all_eq_true.mp hn w hw) fun G3 k3 => ⟨rfl, k3⟩
  · have e1 : (Pl.strA (givenB s ++ Pl.esBoxes s.exs)).map (fun _ => AV.bl true) = (List.replicate (givenB s ++ Pl.esBoxes s.exs).length true).map AV.bl := by
      rw [List.map_const', List.map_replicate, strA_len]
    rw [e1]
    simp_arith []
    rw [all_ls, all_true]
    simp_arith []
    unfold k_wrong_in_4
    simp_arith []
    refine call_wp hk hc ?_
    simp_arith []
    unfold k_wrong_in_6
    rw [wp_seq]
    have k02 : Kp 0 G G2 := k1.trans k2
    refine wp_forK (k := ((Pl.subsOf s.exs).map Pl.Ex.av, none)) (G0 := G2) (wk_ok rfl rfl) (fun j ρ G' => ∃ a4, ρ = [some f.av, some s.av, some kn, some (.ls ((Pl.subsOf s.exs).map Pl.Ex.av)), a4, none, none] ∧ G' = G2)
      ⟨_, rfl, rfl⟩ (fun _ _ _ _ _ => True.intro) (fun j v ρ G' hv ⟨a4, er, eG⟩ => ?_) fun ρ G' ⟨a4, er, eG⟩ => ?_
    · subst er eG
      have hv : ((Pl.subsOf s.exs).map Pl.Ex.av)[j]? = some v := hv
      rw [List.getElem?_map] at hv
      obtain ⟨e, he, rfl⟩ := Option.map_eq_some_iff.mp hv
      have hre := List.all_eq_true.mp hr e (List.mem_of_getElem? he)
      unfold l_wrong_in_6
      cases e with
      | ref g =>
        simp only [refOk] at hre
        cases hg : fnOf fs g with
        | none => rw [hg] at hre; cases hre
        | some f' =>
          rw [hg] at hre
          have hre := of_decide_eq_true hre
          unfold Pl.Ex.av
          simp_arith []
          rw [kn_nin hk, hg]
          simp_arith [Option.isSome_some]
          rw [kn_dg hk hg, fn_results (by simp)]
          simp_arith []
          rw [decide_eq_true (show (f'.results : Int) = 1 by omega)]
          simp_arith []
          exact ⟨_, rfl⟩
      | sum k a b =>
        have hk : ¬ k.word = ("ref" : Str) := by cases k <;> simp [Pl.Sk.word, ofS_inj]
        unfold Pl.Ex.av
        simp_arith []
        rw [decide_eq_false hk]
        simp_arith []
        exact ⟨_, rfl⟩
      | _ =>
        unfold Pl.Ex.av
        simp_arith [ofS_inj, String.reduceEq]
        exact ⟨_, rfl⟩
    · subst er eG
      unfold k_wrong_in_9
      have fin : (k_wrong_in_11 [some f.av, some s.av, some kn, some (.ls ((Pl.subsOf s.exs).map Pl.Ex.av)), a4, none, none] G').wp ⟨fun _ G => QV .non G, QV, fun _ _ => False, fun _ _ => False, E⟩ := by
        unfold k_wrong_in_11
        simp_arith []
        rw [fn_more (in1 _)]
        cases hmo : f.more with
        | true =>
          simp_arith []
          exact hq _ k02
        | false =>
          rw [hmo, Bool.false_or] at hm
          simp_arith []
          refine wp_lcG (vs := (Pl.subsOf s.exs).map Pl.Ex.av) (G0 := G') (wk_ok rfl rfl) (Kp.refl _ _) (fun _ => false) (fun v => v) (by rw [List.length_map]; have := Pl.subsOf_len (n := 12) s.exs f1; omega) (fun v hv G3 k3 => ?_) fun G3 k3 => ?_
          · obtain ⟨e, hem, rfl⟩ := List.mem_map.mp hv
            have hfe := List.all_eq_true.mp hm e hem
            refine ⟨_, rfl, ?_⟩
            cases e with
            | many => cases hfe
            | extra e => cases hfe
            | sum k a b =>
              unfold Pl.Ex.av
              simp_arith []
              cases k <;> exact ⟨by decide +kernel, Kp.refl _ _, fun _ => Kp.refl _ _⟩
            | _ =>
              unfold Pl.Ex.av
              simp_arith []
              exact ⟨by decide +kernel, Kp.refl _ _, fun _ => Kp.refl _ _⟩
          · rw [List.filter_eq_nil_iff.mpr (by simp)]
            simp_arith []
            rw [ne_refl (da_ls (k := 1) (vs := []) (by simp)) (by decide)]
            simp_arith []
            exact hq _ (k02.trans k3)
      have hw0 : ∃ (w : Str) (r : List AV), s.av = .tup (.str w :: r) := by
        cases s <;> simp only [Pl.St.av] <;> exact ⟨_, _, rfl⟩
      cases s with
      | ret es =>
        have avE : Pl.St.av (.ret es) = .tup [.str "return", .tup (es.map Pl.Ex.av)] := by simp only [Pl.St.av]
        have hret := of_decide_eq_true (show decide (es.length = f.results) = true from hret)
        have ix0 : ∀ (G : Hs) (Q : AV → Hs → Prop) (E : XQ), (fIx (Pl.St.av (.ret es)) (.int 0) G).wp Q E = Q (.str "return") G := fun G Q E => by rw [avE]; exact ixT0
        have ix1 : ∀ (G : Hs) (Q : AV → Hs → Prop) (E : XQ), (fIx (Pl.St.av (.ret es)) (.int 1) G).wp Q E = Q (.tup (es.map Pl.Ex.av)) G := fun G Q E => by rw [avE]; exact ixT1
        simp_arith [ix0, ix1]
        rw [len_T, List.length_map]
        simp_arith []
        rw [fn_results (by simp)]
        simp_arith []
        rw [decide_eq_true (show (es.length : Int) = f.results by omega)]
        simp_arith []
        exact fin
      | _ =>
        obtain ⟨w, r, hw⟩ := hw0
        have ix0 : ∀ (G : Hs) (Q : AV → Hs → Prop) (E : XQ), (fIx (.tup (.str w :: r)) (.int 0) G).wp Q E = Q (.str w) G := fun G Q E => ixT0
        have hne : ¬ w = "return" := by
          simp only [Pl.St.av, AV.tup.injEq, List.cons.injEq, AV.str.injEq] at hw
          rw [← hw.1]
          simp [ofS_inj]
        rw [hw] at fin ⊢
        simp_arith [ix0]
        rw [decide_eq_false hne]
        simp_arith []
        exact fin
end
end L_k76
namespace L_k76
open PySem L2 Vz
section
variable {QV : AV → Hs → Prop} {QB : Bool → Hs → Prop} {E : XQ} {G : Hs} {ρ : En} {D : SP} {A : Pl.Ad} {fs : List Pl.Fn} {st s2 : Pl.Rs} {d : Nat} {bx b2 : Pl.Bx} {xs : List Int} {out : Pl.Out} {kn : AV} {f : Pl.Fn}
theorem in_lsS {w : Str} {xs : List Str} : (fIn (.str w) (.ls (xs.map .str)) G).wp QV E = QV (.bl (xs.any fun y => y == w)) G := by
  unfold fIn
  rw [show inB G (.str w) (.ls (xs.map .str)) = some (xs.any fun y => y == w) from inB_seq rfl fun z => by simp]
  rfl
theorem cut_takeN {ys : List AV} {k : Nat} (h : k ≤ ys.length) : cutA ys none (some (k : Int)) = ys.take k := by
  have e : HT.sIx ys.length ys.length (some (k : Int)) = k := by rw [HT.sIx_nat]; exact Nat.min_eq_left h
  have e2 : HT.sIx ys.length 0 none = 0 := rfl
  unfold cutA
  rw [e, e2, List.drop_zero, Nat.sub_zero]
theorem any_mem {w : Str} {l : List Str} (h : w ∉ l) : (l.any fun y => y == w) = false := by
  rw [List.any_eq_false]
  intro y hy e
  have : y = w := by simpa using e
  subst this
  exact h hy
theorem okfn_parts (h : okFn fs f = true) : isN f.name = true ∧ (∀ p ∈ f.params, isN p = true) ∧ f.params.Nodup ∧ (∀ s ∈ bdSts f.body, okSt fs f s = true) ∧ (bdSts f.body).length ≤ 100000 ∧ f.fit = true := by
  unfold okFn at h
  simp only [Bool.and_eq_true, decide_eq_true_eq] at h
  obtain ⟨⟨⟨⟨⟨h1, h2⟩, h3⟩, h4⟩, h5⟩, h6⟩ := h
  exact ⟨h1, List.all_eq_true.mp h2, h3, List.all_eq_true.mp h4, h5, h6⟩
theorem look_wp {ahead : List Str} (hk : Kn fs kn) (h : okFn fs f = true) (ha : f.name ∉ ahead) (hq : ∀ G', Kp 0 G G' → QV .non G') : (f_look_at [f.av, .ls (Pl.strA ahead), kn] G).wp QV E := by
  have esz := szl_eq
  obtain ⟨h1, h2, h3, h4, h5, h6⟩ := okfn_parts h
  obtain ⟨g1, g2, g3, g4⟩ := fn_fit h6
  unfold f_look_at b_look_at
  simp_arith []
  rw [fn_name (in1 _)]
  simp_arith []
  refine nm_wp h1 fun G1 k1 => ?_
  simp_arith []
  rw [fn_name (in1 _)]
  simp_arith []
  show ((fIn (.str f.name) (.ls (ahead.map .str)) G1).wp _ _ : Prop)
  rw [in_lsS, any_mem ha]
  simp_arith []
  unfold k_look_at_3
  rw [wp_seq]
  have he : (mEn (m1 (fFld ["Function"] "params") (mVar 0)) [some f.av, some (.ls (Pl.strA ahead)), some kn, none, none, none, none] G1) = .ok (zipE (Pl.strA f.params, none)) G1 := en_ok (v := .tup (Pl.strA f.params)) (eq_of_wp (by
    simp_arith []
    rw [fn_params (in1 _)]
    exact ⟨rfl, rfl⟩)) rfl
  refine wp_forK he (fun j ρ G' => ∃ a3 a4, ρ = [some f.av, some (.ls (Pl.strA ahead)), some kn, a3, a4, none, none] ∧ Kp 0 G G')
    ⟨_, _, rfl, k1⟩ (fun _ _ _ _ _ => True.intro) (fun j v ρ G' hv ⟨a3, a4, er, k⟩ => ?_) fun ρ G' ⟨a3, a4, er, k⟩ => ?_
  · subst er
    obtain ⟨p, hp, rfl⟩ : ∃ p, f.params[j]? = some p ∧ v = .tup [.int (j : Nat), .str p] := by
      have hv : (zipE (Pl.strA f.params, none)).1[j]? = some v := hv
      rw [zipE_get] at hv
      obtain ⟨u, hu, rfl⟩ := Option.map_eq_some_iff.mp hv
      obtain ⟨p, hp, rfl⟩ := Option.map_eq_some_iff.mp ((List.getElem?_map ..).symm.trans hu)
      exact ⟨p, hp, rfl⟩
    have hpm := h2 p (List.mem_of_getElem? hp)
    have hj := (List.getElem?_eq_some_iff.mp hp).1
    rw [wp_gT2]
    unfold l_look_at_3
    simp_arith []
    refine nm_wp hpm fun G2 k2 => ?_
    simp_arith []
    rw [wp_fz]
    simp_arith []
    rw [fn_params (in1 _)]
    simp_arith []
    rw [sl_tup, fzQ_tup, cut_takeN (by rw [strA_len]; omega)]
    have hn : p ∉ f.params.take j := fun z => by
      have et : f.params.take (j + 1) = f.params.take j ++ [p] := by rw [List.take_succ, hp]; rfl
      have := List.Nodup.sublist (List.take_sublist (j + 1) f.params) h3
      rw [et, List.nodup_append] at this
      exact this.2.2 p z p (List.mem_singleton.mpr rfl) rfl
    have e9 : (Pl.strA f.params).take j = (f.params.take j).map AV.str := List.map_take.symm
    rw [e9, in_tupS, any_mem hn]
    simp_arith []
    exact ⟨_, _, rfl, k.trans k2⟩
  · subst er
    unfold k_look_at_6
    obtain ⟨v0, G0, e0, q0, k0⟩ := (show ((mCall 1 1 0 gAll f_statements_of (mCons (m1 (fFld ["Function"] "body") (mVar 0)) mNil) mNil) [some f.av, some (.ls (Pl.strA ahead)), some kn, a3, a4, none, none] G').wp (fun v G0 => v = .ls ((bdSts f.body).map Pl.St.av) ∧ Kp 0 G' G0) noX from by
      simp_arith []
      rw [fn_bodyF (in1 _)]
      simp_arith []
      exact sts_wp 20 _ _ _ _ (by omega) h5 fun G2 k2 => ⟨rfl, k2⟩).ex
    subst q0
    refine wp_forK (k := ((bdSts f.body).map Pl.St.av, none)) (wk_ok e0 rfl) (fun j ρ G' => ∃ a5 a6, ρ = [some f.av, some (.ls (Pl.strA ahead)), some kn, a3, a4, a5, a6] ∧ Kp 0 G G')
      ⟨_, _, rfl, k.trans k0⟩ (fun _ _ _ _ _ => True.intro) (fun j v ρ G2 hv ⟨a5, a6, er, k2⟩ => ?_) fun ρ G2 ⟨a5, a6, er, k2⟩ => ?_
    · subst er
      obtain ⟨s, hs, rfl⟩ := Option.map_eq_some_iff.mp ((List.getElem?_map ..).symm.trans hv)
      unfold l_look_at_6
      simp_arith []
      refine wrong_wp hk (h4 s (List.mem_of_getElem? hs)) fun G3 k3 => ?_
      unfold k_look_at_8
      simp_arith []
      exact ⟨_, _, rfl, k2.trans k3⟩
    · subst er
      exact hq _ k2
theorem name_inj : ∀ (l : List Pl.Fn), (l.map Pl.Fn.name).Nodup → ∀ f ∈ l, ∀ g ∈ l, f.name = g.name → f = g
  | [], _, f, hf, _, _, _ => nomatch hf
  | x :: l, h, f, hf, g, hg, e => by
    rw [List.map_cons, List.nodup_cons] at h
    rcases List.mem_cons.mp hf with e1 | hf
    · rcases List.mem_cons.mp hg with e2 | hg
      · rw [e1, e2]
      · exact absurd (List.mem_map.mpr ⟨g, hg, by rw [← e, e1]⟩) h.1
    · rcases List.mem_cons.mp hg with e2 | hg
      · exact absurd (List.mem_map.mpr ⟨f, hf, by rw [e, e2]⟩) h.1
      · exact name_inj l h.2 f hf g hg e
theorem find_rev {l : List Pl.Fn} {g : Str} (h : (l.map Pl.Fn.name).Nodup) : fnOf l.reverse g = fnOf l g := by
  unfold fnOf
  cases e : l.find? fun f => decide (f.name = g) with
  | none =>
    rw [List.find?_eq_none] at e ⊢
    intro x hx
    exact e x (List.mem_reverse.mp hx)
  | some f =>
    have hf := List.mem_of_find?_eq_some e
    have pf : f.name = g := by simpa using List.find?_some e
    cases e2 : l.reverse.find? fun f => decide (f.name = g) with
    | none =>
      rw [List.find?_eq_none] at e2
      exact absurd (decide_eq_true pf) (e2 f (List.mem_reverse.mpr hf))
    | some f' =>
      have hf' := List.mem_reverse.mp (List.mem_of_find?_eq_some e2)
      have pf' : f'.name = g := by simpa using List.find?_some e2
      rw [name_inj l h f' hf' f hf (pf'.trans pf.symm)]
def pairK (l : List Pl.Fn) : List (L2.Key × AV) := l.map fun f => (.inr f.name, f.av)
theorem pairK_get {g : Str} : ∀ l : List Pl.Fn, getA (pairK l) (.inr g) = (fnOf l g).map Pl.Fn.av
  | [] => rfl
  | f :: l => by
    show (if (Sum.inr f.name : L2.Key) = Sum.inr g then some f.av else getA (pairK l) (.inr g)) = _
    unfold fnOf
    rw [List.find?_cons]
    by_cases c : f.name = g
    · rw [if_pos (by rw [c]), decide_eq_true c]; rfl
    · rw [if_neg (fun e => c (Sum.inr.inj e)), decide_eq_false c]
      exact pairK_get l
theorem zip_self {α β : Type} : ∀ l : List (α × β), (l.map (·.1)).zip (l.map (·.2)) = l
  | [] => rfl
  | x :: l => by rw [List.map_cons, List.map_cons, List.zip_cons_cons, zip_self l]
theorem kn_of {l : List Pl.Fn} (h : (l.map Pl.Fn.name).Nodup) : Kn l (.id ((pairK l.reverse).map (·.1)) ((pairK l.reverse).map (·.2))) :=
  ⟨_, _, rfl, fun g => by rw [zip_self, pairK_get, find_rev h]⟩
theorem pairK_put {l : List Pl.Fn} {f : Pl.Fn} (h : f.name ∉ l.map Pl.Fn.name) : putA (pairK l) (.inr f.name) f.av = pairK (l ++ [f]) := by
  have e : ((pairK l).any fun kv => decide (kv.1 = (Sum.inr f.name : L2.Key))) = false := by
    rw [List.any_eq_false]
    intro p hp
    obtain ⟨x, hx, rfl⟩ := List.mem_map.mp hp
    intro z
    have z : (Sum.inr x.name : L2.Key) = Sum.inr f.name := of_decide_eq_true z
    exact h (List.mem_map.mpr ⟨x, hx, Sum.inr.inj z⟩)
  unfold putA
  rw [if_neg (by rw [e]; simp)]
  unfold pairK
  rw [List.map_append]
  rfl
end
end L_k76
namespace L_k76
open PySem L2 Vz
section
variable {QV : AV → Hs → Prop} {QB : Bool → Hs → Prop} {E : XQ} {G : Hs} {ρ : En} {D : SP} {A : Pl.Ad} {fs : List Pl.Fn} {st s2 : Pl.Rs} {d : Nat} {bx b2 : Pl.Bx} {xs : List Int} {out : Pl.Out} {kn : AV} {f : Pl.Fn}
theorem bookV_wp {n : Nat} {v0 : AV} (ht : ∀ (QV : AV → Hs → Prop) (E : XQ), (fTuple [v0] G).wp QV E = QV (.tup (fs.map Pl.Fn.av)) G) (h : bookOk fs = true) (hn : G[n]? = some (.ins "Book" [])) (hq : ∀ G', G'[n]? = some (.ins "Book" [("functions", .tup (fs.map Pl.Fn.av))]) → Pl.FrP (fun m => m = n) G G' → QV .non G') : (f_Book___init__ [.ref n, v0] G).wp QV E := by
  have esz := szl_eq
  unfold bookOk at h
  simp only [Bool.and_eq_true, decide_eq_true_eq] at h
  obtain ⟨⟨⟨h1, h2⟩, h3⟩, h4⟩ := h
  have h1 := List.all_eq_true.mp h1
  unfold f_Book___init__ b_Book___init__
  simp_arith []
  rw [ht]
  simp_arith []
  rw [st_wp hn (by simp) (by simp)]
  have n1 : (G.set n (.ins "Book" (putFA "functions" (.tup (fs.map Pl.Fn.av)) [])))[n]? = some (.ins "Book" [("functions", .tup (fs.map Pl.Fn.av))]) := Pl.set_self hn
  have f1 : Pl.FrP (fun m => m = n) G (G.set n (.ins "Book" (putFA "functions" (.tup (fs.map Pl.Fn.av)) []))) := Pl.FrP.refl.set rfl
  generalize G.set n (.ins "Book" (putFA "functions" (.tup (fs.map Pl.Fn.av)) [])) = G1 at n1 f1
  have flf : ∀ {G' : Hs} {Q : AV → Hs → Prop} {E : XQ}, G'[n]? = some (.ins "Book" [("functions", .tup (fs.map Pl.Fn.av))]) → (fFld ["Book"] "functions" (.ref n) G').wp Q E = Q (.tup (fs.map Pl.Fn.av)) G' := fun h => wp_fld h (by simp) rfl
  unfold k_Book___init___2
  rw [wp_seq, wp_fzSet (by simp only [List.length_cons]; omega), wp_fz]
  have hnd : ∀ j f, fs.reverse[j]? = some f → f.name ∉ (fs.reverse.take j).map Pl.Fn.name := fun j f hf z => by
    have hr : (fs.reverse.map Pl.Fn.name).Nodup := by rw [List.map_reverse]; exact List.pairwise_reverse.mpr (h2.imp Ne.symm)
    have et : fs.reverse.take (j + 1) = fs.reverse.take j ++ [f] := by rw [List.take_succ, hf]; rfl
    have := List.Nodup.sublist ((List.take_sublist (j + 1) fs.reverse).map Pl.Fn.name) hr
    rw [et, List.map_append, List.nodup_append] at this
    exact this.2.2 _ z _ (List.mem_singleton.mpr rfl) rfl
  refine wp_dc (fun j acc G2 => acc = pairK (fs.reverse.take j) ∧ Kp 0 G1 G2) ?_
  simp_arith []
  rw [wp_fz]
  simp_arith []
  rw [flf n1, rev_T, fzQ_tup]
  have wk_t : ∀ {xs : List AV}, wkOf G1 (.tup xs) = some (xs, none) := rfl
  rw [wk_t, ← List.map_reverse]
  simp only
  refine ⟨⟨rfl, Kp.app _ _ _⟩, fun _ _ _ _ _ => True.intro, fun j v acc G2 hv ⟨ea, k⟩ hm => ?_, fun acc G2 hm ⟨ea, k⟩ => ?_⟩
  · obtain ⟨f, hf, rfl⟩ := Option.map_eq_some_iff.mp ((List.getElem?_map ..).symm.trans hv)
    refine ⟨_, _, rfl, ?_⟩
    simp_arith []
    rw [fn_name (by simp)]
    simp_arith []
    refine ⟨.inr f.name, rfl, hm, ?_, ?_, k.setN (Nat.le_refl _)⟩
    · rw [ea]; unfold pairK; rw [List.length_map, List.length_take, List.length_reverse]; omega
    · rw [ea, pairK_put (hnd j f hf), List.take_succ, hf]; rfl
  · have ea : acc = pairK (fs.reverse.take (fs.reverse.map Pl.Fn.av).length) := ea
    rw [List.length_map, List.take_length] at ea
    subst ea
    rw [fzQ_ref hm rfl]
    have kn0 := kn_of h2
    show ((k_Book___init___3 [some (.ref n), some v0, some (.id ((pairK fs.reverse).map (·.1)) ((pairK fs.reverse).map (·.2))), none, none, none] (G2.set G1.length .gone)).wp _ : Prop)
    generalize AV.id ((pairK fs.reverse).map (·.1)) ((pairK fs.reverse).map (·.2)) = kn at kn0
    have k3 : Kp 0 G1 (G2.set G1.length .gone) := k.setN (Nat.le_refl _)
    generalize G2.set G1.length .gone = G3 at k3
    unfold k_Book___init___3
    rw [wp_seq]
    have n3 := k3.get0 n1
    have he : (mEn (m1 (fFld ["Book"] "functions") (mVar 0)) [some (.ref n), some v0, some kn, none, none, none] G3) = .ok (zipE (fs.map Pl.Fn.av, none)) G3 := en_ok (v := .tup (fs.map Pl.Fn.av)) (eq_of_wp (by
      simp_arith []
      rw [flf n3]
      exact ⟨rfl, rfl⟩)) rfl
    refine wp_forK he (fun j ρ G' => ∃ a3 a4, ρ = [some (.ref n), some v0, some kn, a3, a4, none] ∧ Kp 0 G1 G')
      ⟨_, _, rfl, k3⟩ (fun _ _ _ _ _ => True.intro) (fun j v ρ G' hv ⟨a3, a4, er, k⟩ => ?_) fun ρ G' ⟨a3, a4, er, k⟩ => ?_
    · subst er
      obtain ⟨f, hf, rfl⟩ : ∃ f, fs[j]? = some f ∧ v = .tup [.int (j : Nat), f.av] := by
        have hv : (zipE (fs.map Pl.Fn.av, none)).1[j]? = some v := hv
        rw [zipE_get] at hv
        obtain ⟨u, hu, rfl⟩ := Option.map_eq_some_iff.mp hv
        obtain ⟨p, hp, rfl⟩ := Option.map_eq_some_iff.mp ((List.getElem?_map ..).symm.trans hu)
        exact ⟨p, hp, rfl⟩
      have hj := (List.getElem?_eq_some_iff.mp hf).1
      have n4 := k.get0 n1
      rw [wp_gT2]
      unfold l_Book___init___3
      simp_arith []
      have hw : (mWk (mFz (mSl (m1 (fFld ["Book"] "functions") (mVar 0)) mNone (mSome (mVar 3)))) [some (.ref n), some v0, some kn, some (.int (j : Nat)), some f.av, none] G') = .ok ((fs.take j).map Pl.Fn.av, none) G' := wk_ok (v := .tup ((fs.take j).map Pl.Fn.av)) (eq_of_wp (by
        rw [wp_fz]
        simp_arith []
        rw [flf n4, sl_tup, fzQ_tup, cut_takeN (by rw [List.length_map]; omega)]
        exact ⟨by rw [List.map_take], rfl⟩)) rfl
      refine wp_lcM (vs := (fs.take j).map Pl.Fn.av) (G0 := G') hw (Kp.refl _ _) (fun v => match v with
        | .iv _ _ (n :: _) => n
        | _ => .non) (by rw [List.length_map, List.length_take]; omega) (fun v hv G4 k4 => ?_) fun G4 k4 => ?_
      · obtain ⟨x, _, rfl⟩ := List.mem_map.mp hv
        refine ⟨_, rfl, ?_⟩
        simp_arith []
        rw [fn_name (by simp)]
        exact ⟨rfl, Kp.refl _ _⟩
      · have e8 : ((fs.take j).map Pl.Fn.av).map (fun v => match v with
          | .iv _ _ (n :: _) => n
          | _ => .non) = Pl.strA ((fs.take j).map Pl.Fn.name) := by
          rw [List.map_map]; unfold Pl.strA; rw [List.map_map]; rfl
        rw [e8]
        simp_arith []
        have et : fs.take (j + 1) = fs.take j ++ [f] := by rw [List.take_succ, hf]; rfl
        have hna : f.name ∉ (fs.take j).map Pl.Fn.name := fun z => by
          have := List.Nodup.sublist ((List.take_sublist (j + 1) fs).map Pl.Fn.name) h2
          rw [et, List.map_append, List.nodup_append] at this
          exact this.2.2 _ z _ (List.mem_singleton.mpr rfl) rfl
        refine look_wp kn0 (h1 f (List.mem_of_getElem? hf)) hna fun G5 k5 => ?_
        exact ⟨_, _, rfl, (k.trans k4).trans k5⟩
    · subst er
      have n4 := k.get0 n1
      cases fs with
      | nil => cases h4
      | cons f r =>
        unfold k_Book___init___5
        simp_arith []
        rw [flf n4]
        simp_arith []
        rw [wp_eqE]
        simp_arith [List.isEmpty_cons]
        unfold k_Book___init___7
        simp_arith []
        rw [flf n4]
        simp_arith []
        rw [fn_more (by simp)]
        have h4 : f.more = false := by simpa using h4
        rw [h4]
        simp_arith []
        exact hq _ n4 (f1.trans (.kp k))
theorem fninit_wp {f : Pl.Fn} {n : Nat} (hn : G[n]? = some (.ins "Function" [])) (hq : ∀ G', G'[n]? = some (.ins "Function" [("name", .str f.name), ("params", .tup (Pl.strA f.params)), ("body", .tup (Pl.bdA f.body)), ("results", .int f.results), ("more", .bl f.more)]) → Pl.FrP (fun m => m = n) G G' → QV .non G') :
    (f_Function___init__ [.ref n, .str f.name, .tup (Pl.strA f.params), .tup (Pl.bdA f.body), .int f.results, .bl f.more] G).wp QV E := by
  unfold f_Function___init__ b_Function___init__
  simp_arith []
  rw [st_wp hn (by simp) (by simp)]
  have n1 := Pl.set_self (o' := .ins "Function" (putFA "name" (.str f.name) [])) hn
  have f1 : Pl.FrP (fun m => m = n) G (G.set n (.ins "Function" (putFA "name" (.str f.name) []))) := Pl.FrP.refl.set rfl
  generalize G.set n (.ins "Function" (putFA "name" (.str f.name) [])) = G1 at n1 f1
  unfold k_Function___init___2
  simp_arith []
  rw [tuple_T]
  simp_arith []
  rw [st_wp n1 (by simp) (by simp [putFA])]
  have n2 := Pl.set_self (o' := .ins "Function" (putFA "params" (.tup (Pl.strA f.params)) (putFA "name" (.str f.name) []))) n1
  have f2 : Pl.FrP (fun m => m = n) G (G1.set n (.ins "Function" (putFA "params" (.tup (Pl.strA f.params)) (putFA "name" (.str f.name) [])))) := f1.set rfl
  generalize G1.set n (.ins "Function" (putFA "params" (.tup (Pl.strA f.params)) (putFA "name" (.str f.name) []))) = G2 at n2 f2
  unfold k_Function___init___3
  simp_arith []
  rw [st_wp n2 (by simp) (by simp [putFA, ofS_inj])]
  have n3 := Pl.set_self (o' := .ins "Function" (putFA "body" (.tup (Pl.bdA f.body)) (putFA "params" (.tup (Pl.strA f.params)) (putFA "name" (.str f.name) [])))) n2
  have f3 : Pl.FrP (fun m => m = n) G (G2.set n (.ins "Function" (putFA "body" (.tup (Pl.bdA f.body)) (putFA "params" (.tup (Pl.strA f.params)) (putFA "name" (.str f.name) []))))) := f2.set rfl
  generalize G2.set n (.ins "Function" (putFA "body" (.tup (Pl.bdA f.body)) (putFA "params" (.tup (Pl.strA f.params)) (putFA "name" (.str f.name) [])))) = G3 at n3 f3
  unfold k_Function___init___4
  simp_arith []
  rw [st_wp n3 (by simp) (by simp [putFA, ofS_inj])]
  have n4 := Pl.set_self (o' := .ins "Function" (putFA "results" (.int f.results) (putFA "body" (.tup (Pl.bdA f.body)) (putFA "params" (.tup (Pl.strA f.params)) (putFA "name" (.str f.name) []))))) n3
  have f4 : Pl.FrP (fun m => m = n) G (G3.set n (.ins "Function" (putFA "results" (.int f.results) (putFA "body" (.tup (Pl.bdA f.body)) (putFA "params" (.tup (Pl.strA f.params)) (putFA "name" (.str f.name) [])))))) := f3.set rfl
  generalize G3.set n (.ins "Function" (putFA "results" (.int f.results) (putFA "body" (.tup (Pl.bdA f.body)) (putFA "params" (.tup (Pl.strA f.params)) (putFA "name" (.str f.name) []))))) = G4 at n4 f4
  rw [st_wp n4 (by simp) (by simp [putFA, ofS_inj])]
  exact hq _ ((Pl.set_self n4).trans (by simp [putFA, ofS_inj])) (f4.set rfl)
end
end L_k76
namespace L_k76
open PySem L2 Vz
def opA : Option Int → AV
  | none => .non
  | some i => .int i
/-- a register's number -/
def Reg (i : Int) : Prop := 0 ≤ i ∧ i < 12
instance (i : Int) : Decidable (Reg i) := inferInstanceAs (Decidable (_ ∧ _))
/-- v is a tuple of these numbers -/
def Tz (v : AV) (l : List Int) : Prop := v = .tup (zAV l) ∨ v = .con (zAV l)
def opl (o : Option Int) : List Int := match o with
  | some i => [i]
  | none => []
structure VOk (ha re ke : List Int) (li co : Option Int) (ow : Str) : Prop where
  h4 : ha.length ≤ 4
  r3 : re.length = 3
  ow : ow = "caller" ∨ ow = "callee"
  rg : ∀ i ∈ ha ++ (re ++ (ke ++ (opl li ++ opl co))), Reg i
def vN : List Str := ["handed", "results", "kept", "link", "count", "up", "clears"]
section
variable {QV : AV → Hs → Prop} {QB : Bool → Hs → Prop} {E : XQ} {G : Hs} {ρ : En} {D : SP} {b t s : Nat}
def isSome_ : AV → Bool
  | .int _ => true
  | _ => false
def ins_ : AV → Bool
  | .int i => decide (Reg i)
  | _ => false
theorem chain_any {i : Int} {σ : En} (e : σ[9]? = some (some (.int i))) : mChain fLe fLt (mC (.int 0)) (mVar 9) (mC (.int 12)) σ G = .ok (.bl (decide (Reg i))) G := by
  unfold mChain mC
  rw [R.bind_ok, var_ok e, R.bind_ok]
  have e2 : fLe (.int 0) (.int i) G = .ok (.bl (decide (0 ≤ i))) G := rfl
  rw [e2]
  by_cases h : 0 ≤ i
  · rw [decide_eq_true h]
    show fLt (.int i) (.int 12) G = _
    show R.ok (AV.bl (decide (i < 12))) G = _
    by_cases h2 : i < 12
    · have r : decide (Reg i) = true := decide_eq_true (show Reg i from ⟨h, h2⟩)
      rw [decide_eq_true h2, r]
    · have r : decide (Reg i) = false := decide_eq_false fun x : Reg i => h2 x.2
      rw [decide_eq_false h2, r]
  · have r : decide (Reg i) = false := decide_eq_false fun x : Reg i => h x.1
    rw [decide_eq_false h, r]
    rfl
theorem fst_step {n : Nat} {G0 : Hs} {f : Str} {fs : List (Str × AV)} {u : AV} (h : G[n]? = some (.ins "Vow" fs)) (fr : FrN n G0 G) : (G.set n (.ins "Vow" (putFA f u fs)))[n]? = some (.ins "Vow" (putFA f u fs)) ∧ FrN n G0 (G.set n (.ins "Vow" (putFA f u fs))) :=
  ⟨List.getElem?_set_self (List.getElem?_eq_some_iff.mp h).1, fr.set⟩
theorem tuple_z {v : AV} {l : List Int} (h : Tz v l) : (fTuple [v] G).wp QV E = QV v G := by
  rcases h with rfl | rfl <;> rfl
theorem len_z {v : AV} {l : List Int} (h : Tz v l) : (fLen [v] G).wp QV E = QV (.int (l.length : Nat)) G := by
  rcases h with rfl | rfl
  · show QV (.int ((zAV l).length : Nat)) G = _
    rw [zAV_len]
  · show QV (.int ((zAV l).length : Nat)) G = _
    rw [zAV_len]
theorem wk_z {v : AV} {l : List Int} (h : Tz v l) : seqOf G v = some (zAV l) := by
  rcases h with rfl | rfl <;> rfl
theorem wkO_z {v : AV} {l : List Int} (h : Tz v l) : wkOf G v = some (zAV l, none) := by
  rcases h with rfl | rfl <;> rfl
theorem init_end {h r k li co up ow : AV} {ha re ke : List Int} {n : Nat} {a8 a9 a10 : Option AV} {G0 : Hs} (h1 : Tz h ha) (h2 : Tz r re) (h3 : Tz k ke) (hn : G[n]? = some (.ins "Vow" [])) (fr : FrN n G0 G) (hq : ∀ σ G', G'[n]? = some (.ins "Vow" (vN.zip [h, r, k, li, co, up, ow])) → FrN n G0 G' → D.nx σ G') :
    (k_Vow___init___6 [some (.ref n), some h, some r, some k, some li, some co, some up, some ow, a8, a9, a10] G).wp D := by
  have hm : ("Vow" : Str) ∈ [("Vow" : Str)] := List.mem_singleton.mpr rfl
  have hm2 : ("Vow" : Str) ∈ [("Function" : Str), "Vow"] := by simp
  have hm3 : ("Vow" : Str) ∈ [("Vow" : Str)] := List.mem_singleton.mpr rfl
  unfold k_Vow___init___6
  simp_arith [tuple_z h1, tuple_z h2, tuple_z h3, st_wp hn hm (show ([] : List (Str × AV)).length < 1000 by decide)]
  obtain ⟨g1, r1⟩ := fst_step (f := "handed") (u := h) hn fr
  unfold k_Vow___init___7
  simp_arith [tuple_z h1, tuple_z h2, tuple_z h3, st_wp g1 hm2 (show (putFA _ _ _).length < 1000 by simp [putFA])]
  obtain ⟨g2, r2⟩ := fst_step (f := "results") (u := r) g1 r1
  unfold k_Vow___init___8
  simp_arith [tuple_z h1, tuple_z h2, tuple_z h3, st_wp g2 hm (show (putFA _ _ _).length < 1000 by simp [putFA, ofS_inj])]
  obtain ⟨g3, r3⟩ := fst_step (f := "kept") (u := k) g2 r2
  unfold k_Vow___init___9
  simp_arith [st_wp g3 hm3 (show (putFA _ _ _).length < 1000 by simp [putFA, ofS_inj])]
  obtain ⟨g4, r4⟩ := fst_step (f := "link") (u := li) g3 r3
  unfold k_Vow___init___10
  simp_arith [st_wp g4 hm (show (putFA _ _ _).length < 1000 by simp [putFA, ofS_inj])]
  obtain ⟨g5, r5⟩ := fst_step (f := "count") (u := co) g4 r4
  unfold k_Vow___init___11
  simp_arith [st_wp g5 hm (show (putFA _ _ _).length < 1000 by simp [putFA, ofS_inj])]
  obtain ⟨g6, r6⟩ := fst_step (f := "up") (u := up) g5 r5
  simp_arith [st_wp g6 hm (show (putFA _ _ _).length < 1000 by simp [putFA, ofS_inj])]
  obtain ⟨g7, r7⟩ := fst_step (f := "clears") (u := ow) g6 r6
  refine hq _ _ (g7.trans ?_) r7
  simp [putFA, ofS_inj, vN]
theorem named_eq {li co : Option Int} : [opA li, opA co].filter isSome_ = zAV (opl li ++ opl co) := by
  cases li <;> cases co <;> rfl
theorem init_wp {n : Nat} {ha re ke : List Int} {h r k : AV} {li co : Option Int} {up : Bool} {ow : Str} {a8 a9 a10 : Option AV} (h1 : Tz h ha) (h2 : Tz r re) (h3 : Tz k ke) (hl : ha.length ≤ 1000 ∧ re.length ≤ 1000 ∧ ke.length ≤ 1000) (hn : G[n]? = some (.ins "Vow" []))
    (hy : VOk ha re ke li co ow → ∀ σ G', G'[n]? = some (.ins "Vow" (vN.zip [h, r, k, opA li, opA co, .bl up, .str ow])) → FrN n G G' → D.nx σ G')
    (hz : ¬ VOk ha re ke li co ow → ∀ G', Kp 0 G G' → D.ex "NoVow" (["name"], [.str ""]) G') :
    (b_Vow___init__ [some (.ref n), some h, some r, some k, some (opA li), some (opA co), some (.bl up), some (.str ow), a8, a9, a10] G).wp D := by
  have e := szl_eq
  unfold b_Vow___init__
  simp_arith []
  rw [wp_fzSet (by simp)]
  refine wp_lcG (vs := [opA li, opA co]) (wk_ok rfl rfl) (Kp.refl _ _) isSome_ id (by show 2 ≤ szl; decide) (fun v hv G1 hk => ?_) fun G1 k1 => ?_
  · simp only [List.mem_cons, List.not_mem_nil, or_false] at hv
    rcases hv with q | q <;> subst q
    · cases li with
      | none => exact ⟨_, rfl, ⟨rfl, Kp.refl _ _, fun h => nomatch h⟩⟩
      | some i => exact ⟨_, rfl, ⟨rfl, Kp.refl _ _, fun _ => ⟨rfl, Kp.refl _ _⟩⟩⟩
    · cases co with
      | none => exact ⟨_, rfl, ⟨rfl, Kp.refl _ _, fun h => nomatch h⟩⟩
      | some i => exact ⟨_, rfl, ⟨rfl, Kp.refl _ _, fun _ => ⟨rfl, Kp.refl _ _⟩⟩⟩
  rw [List.map_id, named_eq]
  have hnl : (opl li ++ opl co).length ≤ 2 := by cases li <;> cases co <;> simp [opl]
  unfold k_Vow___init___2
  simp_arith [len_z h1, len_z h2]
  have no : ∀ G', Kp 0 G G' → ¬ VOk ha re ke li co ow → D.ex "NoVow" (mkX [("name", 1)] [.str ""]) G' := fun G' k n => hz n G' k
  by_cases c1 : ha.length ≤ 4
  case neg =>
    rw [show decide ((4 : Int) < (ha.length : Nat)) = true from decide_eq_true (by omega)]
    simp_arith [wp_raise]
    exact ⟨by decide, no _ k1 fun x => c1 x.h4⟩
  rw [show decide ((4 : Int) < (ha.length : Nat)) = false from decide_eq_false (by omega)]
  simp_arith [len_z h2]
  by_cases c2 : re.length = 3
  case neg =>
    rw [show decide (((re.length : Nat) : Int) = 3) = false from decide_eq_false (by omega)]
    simp_arith [wp_raise]
    exact ⟨by decide, no _ k1 fun x => c2 x.r3⟩
  rw [show decide (((re.length : Nat) : Int) = 3) = true from decide_eq_true (by omega)]
  simp_arith []
  by_cases c3 : ow = "caller" ∨ ow = "callee"
  case neg =>
    have hcl : ([("caller" : Str), "callee"].any fun y => y == ow) = false := by
      rw [List.any_eq_false]
      intro x hx
      simp only [List.mem_cons, List.not_mem_nil, or_false] at hx
      rcases hx with q | q <;> subst q <;> simp only [beq_iff_eq] <;> intro z <;> exact c3 (by simp [← z])
    rw [hcl]
    simp_arith [wp_raise]
    exact ⟨by decide, no _ k1 fun x => c3 x.ow⟩
  have hcl : ([("caller" : Str), "callee"].any fun y => y == ow) = true := by
    rcases c3 with q | q <;> subst q <;> decide +kernel
  rw [hcl]
  simp_arith []
  unfold k_Vow___init___4
  rw [wp_seq, wp_if, wp_not, wp_tru, wp_blt, wp_cons]
  refine wp_lc2I (vs := [h, r, k, .ls (zAV (opl li ++ opl co))]) (wk_ok rfl rfl) (Kp.refl _ _) (fun v => match seqOf G1 v with
    | some xs => xs
    | none => zAV (opl li ++ opl co)) (fun _ u => .bl (ins_ u)) ?_ (fun v hv G2 => ?_) fun G2 k2 => ?_
  · simp only [List.flatMap_cons, List.flatMap_nil, List.append_nil, List.length_append, wk_z h1, wk_z h2, wk_z h3, zAV_len]
    rw [show seqOf G1 (.ls (zAV (opl li ++ opl co))) = some (zAV (opl li ++ opl co)) from rfl]
    simp only [zAV_len]
    omega
  · have wz : ∀ (l : List Int) (σ : En), σ.length = 11 → ∀ u ∈ zAV l, ∀ G1 : Hs, ∃ ρ2, gNm 9 u σ G1 = .ok ρ2 G1 ∧ mYes ρ2 G1 = .ok true G1 ∧ mChain fLe fLt (mC (.int 0)) (mVar 9) (mC (.int 12)) ρ2 G1 = .ok (.bl (ins_ u)) G1 := fun l σ hσ u hu G1 => by
      obtain ⟨i, _, rfl⟩ := List.mem_map.mp hu
      exact ⟨_, rfl, rfl, chain_any (by rw [List.getElem?_set_self (by omega)])⟩
    simp only [List.mem_cons, List.not_mem_nil, or_false] at hv
    rcases hv with q | q | q | q <;> subst q
    · rw [wk_z h1]
      refine ⟨_, rfl, rfl, wk_ok rfl (wkO_z h1), ?_⟩
      exact wz _ _ rfl
    · rw [wk_z h2]
      refine ⟨_, rfl, rfl, wk_ok rfl (wkO_z h2), ?_⟩
      exact wz _ _ rfl
    · rw [wk_z h3]
      refine ⟨_, rfl, rfl, wk_ok rfl (wkO_z h3), ?_⟩
      exact wz _ _ rfl
    · exact ⟨_, rfl, rfl, rfl, wz _ _ rfl⟩
  have fl : ∀ l : List Int, (zAV l).map (fun u => AV.bl (ins_ u)) = (l.map fun i => decide (Reg i)).map AV.bl := fun l => by
    unfold zAV
    rw [List.map_map, List.map_map]
    rfl
  simp only [List.flatMap_cons, List.flatMap_nil, List.append_nil, wk_z h1, wk_z h2, wk_z h3]
  rw [show seqOf G1 (.ls (zAV (opl li ++ opl co))) = some (zAV (opl li ++ opl co)) from rfl]
  simp only [fl, ← List.map_append]
  simp_arith []
  rw [all_ls]
  by_cases c4 : ∀ i ∈ ha ++ (re ++ (ke ++ (opl li ++ opl co))), Reg i
  case neg =>
    have ea : ((ha ++ (re ++ (ke ++ (opl li ++ opl co)))).map fun i => decide (Reg i)).all id = false := by
      rw [List.all_eq_false]
      simp only [Classical.not_forall] at c4
      obtain ⟨i, hi, n⟩ := c4
      exact ⟨_, List.mem_map.mpr ⟨i, hi, rfl⟩, by simp [n]⟩
    rw [ea]
    simp_arith [tru_bl, wp_raise]
    exact ⟨by decide, no _ (k1.trans k2) fun x => c4 x.rg⟩
  have ea : ((ha ++ (re ++ (ke ++ (opl li ++ opl co)))).map fun i => decide (Reg i)).all id = true := by
    rw [List.all_eq_true]
    intro x hx
    obtain ⟨i, hi, rfl⟩ := List.mem_map.mp hx
    exact decide_eq_true (c4 i hi)
  rw [ea]
  simp_arith [tru_bl]
  have k12 := k1.trans k2
  exact init_end h1 h2 h3 (k12.get0 hn) .refl fun σ G' g f => hy ⟨c1, c2, c3, c4⟩ σ G' g ((FrN.refl.kpt k12).trans' f)
theorem init_yes {n : Nat} {ha re ke : List Int} {h r k : AV} {li co : Option Int} {up : Bool} {ow : Str} (h1 : Tz h ha) (h2 : Tz r re) (h3 : Tz k ke) (hl : ha.length ≤ 1000 ∧ re.length ≤ 1000 ∧ ke.length ≤ 1000) (hn : G[n]? = some (.ins "Vow" []))
    (ok : VOk ha re ke li co ow) (hy : ∀ G', G'[n]? = some (.ins "Vow" (vN.zip [h, r, k, opA li, opA co, .bl up, .str ow])) → FrN n G G' → QV .non G') : (f_Vow___init__ [.ref n, h, r, k, opA li, opA co, .bl up, .str ow] G).wp QV E := by
  unfold f_Vow___init__
  simp_arith []
  exact init_wp h1 h2 h3 hl hn (fun _ σ => hy) fun no => absurd ok no
end
end L_k76
namespace L_k76
open PySem L2 Vz
theorem take_eq : f_law_take = f_take := rfl
theorem begun_eq : f_law_begun = f_begun 7 := rfl
/-- a vow's parts -/
structure VP where
  ha : List Int
  re : List Int
  ke : List Int
  li : Option Int
  co : Option Int
  up : Bool
  ow : Bool
def clS (b : Bool) : Str := if b then "caller" else "callee"
def VP.xs' (p : VP) : List AV := [.tup (zAV p.ha), .tup (zAV p.re), .tup (zAV p.ke), opA p.li, opA p.co, .bl p.up, .str (clS p.ow)]
def VP.av (p : VP) : AV := .tup p.xs'
structure VP.Ok (p : VP) : Prop where
  h4 : p.ha.length ≤ 4
  r3 : p.re.length = 3
  k4 : p.ke.length ≤ 4
  hb : ∀ i ∈ p.ha, Reg i
  rb : ∀ i ∈ p.re, Reg i
  kb : ∀ i ∈ p.ke, Reg i
  lb : ∀ i, p.li = some i → Reg i
  cb : ∀ i, p.co = some i → Reg i
section
variable {QV : AV → Hs → Prop} {QB : Bool → Hs → Prop} {E : XQ} {G : Hs} {ρ : En} {D : SP} {b t s : Nat}
theorem rg_len {n : Int} : (rgA 0 n).length = n.toNat := by rw [rgA_len]; simp
/-- a row of drawn registers -/
theorem vrow_wp {pool shift n : Int} {a3 a4 a5 a6 a7 a8 : Option AV} (h : Dr b t s G) (ht : t + 10 < 2 ^ 60) (hp : 0 < pool ∧ pool ≤ 12) (hs : 0 ≤ shift ∧ shift < 12) (hn : 0 ≤ n ∧ n ≤ 4)
    (hq : ∀ l G', (l.length : Int) = n → (∀ i ∈ l, Reg i) → Dr b (t + 4) s G' → Kp b G G' → QV (.ls (zAV l)) G') :
    (mFz (mLc (mRg1 (mVar 7)) (gNm 8) mYes (m2 fMod (m2 fAdd (mVar 2) (mCall 2 2 0 gAll f_law_take (mCons (mVar 0) (mCons (mVar 1) mNil)) mNil)) (mC (.int 12))) [8]) [some (.ref s), some (.int pool), some (.int shift), a3, a4, a5, a6, some (.int n), a7, a8] G).wp QV E := by
  have e := szl_eq
  refine wp_lcD (rg1_ok (n := n) rfl (by omega) (by omega)) (Kp.refl _ _) h 1 (fun _ r => ∃ i, r = .int i ∧ Reg i) (by rw [rg_len]; omega) (fun j v G1 hv hd hk => ?_) fun xs G' hl hT hd hk => ?_
  · obtain ⟨rfl, hj⟩ := rgA_get hv
    refine ⟨_, rfl, ?_⟩
    simp_arith [take_eq]
    refine take_wp hd (by omega) (by omega) (by omega) fun r G2 r0 r1 h2 k2 => ?_
    simp_arith []
    exact ⟨by decide, ⟨_, rfl, mod_b (by decide)⟩, h2.mono (by omega), k2⟩
  · obtain ⟨l, rfl, hr⟩ := zAV_of (all_of hl hT)
    rw [zAV_len, rg_len] at hl
    rw [rg_len] at hd
    exact hq l G' (by omega) hr (hd.mono (by omega)) hk
theorem vrows_wp {pool shift r1 r2 : Int} {a4 a5 a6 a7 a8 a9 : Option AV} (h : Dr b t s G) (ht : t + 30 < 2 ^ 60) (hp : 0 < pool ∧ pool ≤ 12) (hs : 0 ≤ shift ∧ shift < 12) (h1 : 0 ≤ r1 ∧ r1 ≤ 4) (h2 : 0 ≤ r2 ∧ r2 ≤ 4)
    (hq : ∀ l1 l2 l3 G', (l1.length : Int) = r1 → l2.length = 3 → (l3.length : Int) = r2 → (∀ l ∈ [l1, l2, l3], ∀ i ∈ l, Reg i) → Dr b (t + 12) s G' → Kp b G G' → QV (.ls [.tup (zAV l1), .tup (zAV l2), .tup (zAV l3)]) G') :
    (mFz (mLc (mWk (mVar 3)) (gNm 7) mYes (mBlt fTuple (mCons (mFz (mLc (mRg1 (mVar 7)) (gNm 8) mYes (m2 fMod (m2 fAdd (mVar 2) (mCall 2 2 0 gAll f_law_take (mCons (mVar 0) (mCons (mVar 1) mNil)) mNil)) (mC (.int 12))) [8])) mNil)) [7])
      [some (.ref s), some (.int pool), some (.int shift), some (.ls [.int r1, .int 3, .int r2]), a4, a5, a6, a7, a8, a9] G).wp QV E := by
  have e := szl_eq
  refine wp_lcD (wk_ok (v := .ls [.int r1, .int 3, .int r2]) rfl rfl) (Kp.refl _ _) h 4 (fun v r => ∃ l : List Int, r = .tup (zAV l) ∧ v = .int l.length ∧ ∀ i ∈ l, Reg i) (by show 3 ≤ szl; decide) (fun j v G1 hv hd hk => ?_) fun xs G' hl hT hd hk => ?_
  · obtain ⟨n, rfl, hnn⟩ : ∃ n : Int, v = .int n ∧ (0 ≤ n ∧ n ≤ 4) := by
      match j, hv with
      | 0, hv => exact ⟨r1, by cases hv; rfl, h1⟩
      | 1, hv => exact ⟨3, by cases hv; rfl, by omega⟩
      | 2, hv => exact ⟨r2, by cases hv; rfl, h2⟩
    have hj : j < 3 := (List.getElem?_eq_some_iff.mp hv).1
    refine ⟨_, rfl, ?_⟩
    simp_arith []
    refine vrow_wp (b := b) (t := t + 4 * j) hd (by omega) hp hs hnn fun l G2 hln hlr hd2 hk2 => ?_
    simp_arith []
    exact ⟨⟨l, rfl, by rw [hln], hlr⟩, hd2.mono (by omega), hk2⟩
  · match xs, hl with
    | [x1, x2, x3], _ =>
      obtain ⟨l1, rfl, e1, q1⟩ := hT 0 _ _ rfl rfl
      obtain ⟨l2, rfl, e2, q2⟩ := hT 1 _ _ rfl rfl
      obtain ⟨l3, rfl, e3, q3⟩ := hT 2 _ _ rfl rfl
      cases e1; cases e3
      injection e2 with e2
      exact hq l1 l2 l3 G' rfl (by omega) rfl (by simp only [List.mem_cons, List.not_mem_nil, or_false]; rintro l (rfl | rfl | rfl) <;> assumption) hd hk
/-- the two that may lack -/
theorem ones_wp {pool shift : Int} {w1 w2 w3 w4 : Int} {a3 a4 a6 a7 a8 a9 : Option AV} (h : Dr b t s G) (ht : t + 30 < 2 ^ 60) (hp : 0 < pool ∧ pool ≤ 12) (hs : 0 ≤ shift ∧ shift < 12)
    (hq : ∀ o1 o2 G', (∀ i, o1 = some i → Reg i) → (∀ i, o2 = some i → Reg i) → Dr b (t + 2) s G' → Kp b G G' → QV (.ls [opA o1, opA o2]) G') :
    (mFz (mLc (mWk (mFz (mSl (mVar 5) mNone (mSome (mC (.int 2)))))) (gNm 9) mYes (mIte (mTest (m2 fEq (mVar 9) (mC (.int 0)))) (mC .non) (m2 fMod (m2 fAdd (mVar 2) (mCall 2 2 0 gAll f_law_take (mCons (mVar 0) (mCons (mVar 1) mNil)) mNil)) (mC (.int 12)))) [9])
      [some (.ref s), some (.int pool), some (.int shift), a3, a4, some (.ls [.int w1, .int w2, .int w3, .int w4]), a6, a7, a8, a9] G).wp QV E := by
  have e := szl_eq
  refine wp_lcD (wk_ok (slI_ok (xs := [.int w1, .int w2, .int w3, .int w4]) (lo := none) (hi := some 2) rfl rfl rfl) rfl) (Kp.app _ _ _) h.app 1 (fun _ r => ∃ o, r = opA o ∧ ∀ i, o = some i → Reg i) (by show 2 ≤ szl; decide) (fun j v G1 hv hd hk => ?_) fun xs G' hl hT hd hk => ?_
  · have hv : ([AV.int w1, .int w2] : List AV)[j]? = some v := hv
    obtain ⟨w, rfl, hj⟩ : ∃ w : Int, v = .int w ∧ j < 2 := by
      match j, hv with
      | 0, hv => exact ⟨w1, by cases hv; rfl, by omega⟩
      | 1, hv => exact ⟨w2, by cases hv; rfl, by omega⟩
    refine ⟨_, rfl, ?_⟩
    simp_arith []
    by_cases hw0 : w = 0
    · subst hw0
      simp_arith []
      exact ⟨⟨none, rfl, fun i hi => nomatch hi⟩, hd.mono (by omega), Kp.refl _ _⟩
    · rw [show decide (w = 0) = false from decide_eq_false hw0]
      simp_arith [take_eq]
      refine take_wp hd (by omega) (by omega) (by omega) fun r G2 r0 r1 h2 k2 => ?_
      simp_arith []
      exact ⟨by decide, ⟨some ((shift + r) % 12), rfl, fun i hi => by cases hi; exact mod_b (by decide)⟩, h2.mono (by omega), k2⟩
  · match xs, hl with
    | [x1, x2], _ =>
      obtain ⟨o1, rfl, q1⟩ := hT 0 _ _ rfl rfl
      obtain ⟨o2, rfl, q2⟩ := hT 1 _ _ rfl rfl
      exact hq o1 o2 G' q1 q2 hd hk
theorem vparts_wp (h : Dr b t s G) (ht : t + 60 < 2 ^ 60) (hq : ∀ p G', VP.Ok p → Dr b (t + 40) s G' → Kp b G G' → QV p.av G') : (f_law_parts [.ref s] G).wp QV E := by
  unfold f_law_parts b_law_parts
  simp_arith [k_law_parts_8, k_law_parts_7, k_law_parts_6, k_law_parts_5, k_law_parts_4, k_law_parts_3, k_law_parts_2, take_eq]
  refine take_wp h (by decide) (by decide) (by omega) fun p1 G1 _ _ h1 k1 => ?_
  simp_arith []
  refine take_wp h1 (by decide) (by decide) (by omega) fun r2 G2 _ _ h2 k2 => ?_
  obtain ⟨pool, hp, hpl⟩ : ∃ pool : Int, [AV.int (1 + p1), .int 12, .int 12][r2.toNat]? = some (.int pool) ∧ 0 < pool ∧ pool ≤ 12 := by
    rcases (show r2 = 0 ∨ r2 = 1 ∨ r2 = 2 by omega) with q | q | q <;> subst q
    · exact ⟨1 + p1, rfl, by omega, by omega⟩
    · exact ⟨12, rfl, by omega, by omega⟩
    · exact ⟨12, rfl, by omega, by omega⟩
  rw [ix_ls (by omega) (by simp; omega) hp]
  simp_arith []
  refine take_wp h2 (by decide) (by decide) (by omega) fun sh G3 s0 s1 h3 k3 => ?_
  simp_arith []
  refine take_wp h3 (by decide) (by decide) (by omega) fun m1 G4 _ _ h4 k4 => ?_
  simp_arith []
  refine take_wp h4 (by decide) (by decide) (by omega) fun m2 G5 _ _ h5 k5 => ?_
  simp_arith []
  rw [wp_fzSet (by simp)]
  refine vrows_wp (r1 := m1) (r2 := m2) h5 (by omega) hpl ⟨s0, s1⟩ ⟨by omega, by omega⟩ ⟨by omega, by omega⟩ fun l1 l2 l3 G6 e1 e2 e3 hreg h6 k6 => ?_
  simp_arith []
  refine take_wp h6 (by decide) (by decide) (by omega) fun w1 G7 _ _ h7 k7 => ?_
  simp_arith []
  refine take_wp h7 (by decide) (by decide) (by omega) fun w2 G8 _ _ h8 k8 => ?_
  simp_arith []
  refine take_wp h8 (by decide) (by decide) (by omega) fun w3 G9 _ _ h9 k9 => ?_
  simp_arith []
  refine take_wp h9 (by decide) (by decide) (by omega) fun w4 G10 _ _ h10 k10 => ?_
  simp_arith []
  rw [wp_fzSet (by simp)]
  refine ones_wp h10 (by omega) hpl ⟨s0, s1⟩ fun o1 o2 G11 ho1 ho2 h11 k11 => ?_
  have kE : Kp b G G11 := (((((((((k1.trans k2).trans k3).trans k4).trans k5).trans k6).trans k7).trans k8).trans k9).trans k10).trans k11
  simp_arith []
  have fin : ∀ ow : Bool, QV (VP.av ⟨l1, l2, l3, o1, o2, decide (w3 = 0), ow⟩) G11 := fun ow =>
    hq _ _ ⟨by show l1.length ≤ 4; omega, e2, by show l3.length ≤ 4; omega, hreg l1 (by simp), hreg l2 (by simp), hreg l3 (by simp), ho1, ho2⟩ (h11.mono (by omega)) kE
  rcases (show w4 = 0 ∨ w4 = 1 by omega) with q | q <;> subst q
  · simp_arith []
    exact fin true
  · simp_arith []
    exact fin false
theorem VP.Ok.vok {p : VP} (h : p.Ok) : VOk p.ha p.re p.ke p.li p.co (clS p.ow) := by
  refine ⟨h.h4, h.r3, by cases p.ow <;> simp [clS], fun i hi => ?_⟩
  simp only [List.mem_append] at hi
  rcases hi with hi | hi | hi | hi | hi
  · exact h.hb i hi
  · exact h.rb i hi
  · exact h.kb i hi
  · cases e : p.li with
    | none => rw [e] at hi; cases hi
    | some j => rw [e] at hi; rw [List.mem_singleton.mp hi]; exact h.lb j e
  · cases e : p.co with
    | none => rw [e] at hi; cases hi
    | some j => rw [e] at hi; rw [List.mem_singleton.mp hi]; exact h.cb j e
theorem vow_wp {p : VP} (hp : p.Ok) (hq : ∀ G' fs, Kp 0 G G' → G'[G.length]? = some (.ins "Vow" fs) → QV (.ref G.length) G') : (f_law_vow [p.av] G).wp QV E := by
  have e := szl_eq
  unfold f_law_vow b_law_vow VP.av VP.xs'
  simp_arith [gP, List.filterMap_cons, List.filterMap_nil]
  have hn : (G ++ [AO.ins "Vow" []])[G.length]? = some (.ins "Vow" []) := by simp
  refine init_yes (.inl rfl) (.inl rfl) (.inl rfl) ⟨by have := hp.h4; omega, by have := hp.r3; omega, by have := hp.k4; omega⟩ hn hp.vok fun G' g f => ⟨rfl, ?_⟩
  exact hq _ _ (FrN.kp0 f) g
end
end L_k76
namespace L_k76
open PySem L2 Vz
def fnQ : Pl.Fn := ⟨"fa", ["x", "y"], [.ret [.box "x"]], 1, false⟩
def bkQ : AV := Pl.bookA [fnQ]
theorem bookQ : bookOk [fnQ] = true := by decide +kernel
def qk : List Key := [.inr "fa"]
def cN8 : List Str := ["rows", "notes", "entries", "thunks", "vows", "common", "book", "leads"]
def lds (r t : Int) : List AV := srt3 [.tup [.int r, .str "fa", .bl false], .tup [.int t, .str "fa", .bl true]]
def codeQ (R N : List AV) (r t : Int) (v c : AV) : AV := .iv "Code" cN8 [.tup R, .tup N, .id qk [.int r], .id qk [.int t], .id qk [v], c, bkQ, .ls (lds r t)]
def leadY (b : Bool) : AV → AV
  | .tup [a, c] => .tup [c, a, .bl b]
  | v => v
/-- x stands for the dict of these keys and values, in no object at n -/
def DAs (G : Hs) (n : Nat) (x : AV) (ks : List Key) (vs : List AV) : Prop := ks.length = vs.length ∧ (x = .id ks vs ∨ ∃ m, x = .ref m ∧ m ≠ n ∧ G[m]? = some (.dk (ks.zip vs)))
section
variable {QV : AV → Hs → Prop} {QB : Bool → Hs → Prop} {E : XQ} {G G0 : Hs} {ρ : En} {D : SP}
theorem leads_ok {r t : Int} : ([AV.tup [.int r, .str "fa", .bl false], AV.tup [.int t, .str "fa", .bl true]].all isTri && uni3 [AV.tup [.int r, .str "fa", .bl false], AV.tup [.int t, .str "fa", .bl true]]) = true := by
  simp [isTri, uni3, kA3]
theorem leads_wp {r t : Int} (hq : ∀ G', Kp 0 G G' → QV (.ls (lds r t)) G') : (f_leads_of [.id qk [.int r], .id qk [.int t]] G).wp QV E := by
  have esz := szl_eq
  unfold f_leads_of b_leads_of
  simp_arith []
  rw [itN_wp (v := .id qk [.int r]) (kvs := [(.inr "fa", .int r)]) rfl rfl (leadY false) (by show 1 ≤ szl; omega) (fun u hu G1 => by
    obtain rfl : u = .tup [.str "fa", .int r] := List.mem_singleton.mp hu
    exact ⟨_, rfl, rfl, rfl⟩) rfl]
  have h1 : (G ++ [AO.lst ((itemsA [((.inr "fa" : Key), AV.int r)]).map (leadY false))])[G.length]? = some (.lst [.tup [.int r, .str "fa", .bl false]]) := by simp [itemsA, Vz.keyV, blank, Vz.scal, leadY]
  have k1 := Kp.app 0 G [AO.lst ((itemsA [((.inr "fa" : Key), AV.int r)]).map (leadY false))]
  generalize G ++ [AO.lst ((itemsA [((.inr "fa" : Key), AV.int r)]).map (leadY false))] = G1 at h1 k1 ⊢
  simp_arith []
  unfold k_leads_of_2
  simp_arith [isL_L h1]
  rw [itI_wp (v := .id qk [.int t]) (kvs := [(.inr "fa", .int t)]) rfl rfl (leadY true) (by show 1 ≤ szl; omega) (fun u hu G1 => by
    obtain rfl : u = .tup [.str "fa", .int t] := List.mem_singleton.mp hu
    exact ⟨_, rfl, rfl, rfl⟩) rfl]
  simp_arith []
  show ((fExtA (.ref G.length) [.ls [.tup [.int t, .str "fa", .bl true]]] G1).wp _ _ : Prop)
  rw [wp_extA h1]
  refine ⟨by simp; omega, ?_⟩
  have h2 := Pl.set_self (o' := .lst [.tup [.int r, .str "fa", .bl false], .tup [.int t, .str "fa", .bl true]]) h1
  have k2 := k1.setN (o := .lst [.tup [.int r, .str "fa", .bl false], .tup [.int t, .str "fa", .bl true]]) (Nat.le_refl _)
  show R.wp _ _ _
  simp only [List.cons_append, List.nil_append]
  generalize G1.set G.length (.lst [.tup [.int r, .str "fa", .bl false], .tup [.int t, .str "fa", .bl true]]) = G2 at h2 k2 ⊢
  simp_arith []
  rw [sort3I_L h2]
  exact ⟨leads_ok, hq _ k2⟩
theorem cm : ("Code" : Str) ∈ [("Code" : Str)] := List.mem_singleton.mpr rfl
theorem DAs.fr {n : Nat} {x : AV} {ks : List Key} {vs : List AV} (h : DAs G0 n x ks vs) (f : Pl.FrP (fun m => m = n) G0 G) : DAs G n x ks vs := by
  obtain ⟨hl, h | ⟨m, e, hm, g⟩⟩ := h
  · exact ⟨hl, .inl h⟩
  · exact ⟨hl, .inr ⟨m, e, hm, f.get hm g⟩⟩
theorem dict_fz {n : Nat} {x : AV} {ks : List Key} {xs : List AV} (h : DAs G n x ks xs) (hq : ∀ G', Kp 0 G G' → QV (.id ks xs) G') : (fDictA [x] G).wp (fzQ QV) E := by
  obtain ⟨hl, rfl | ⟨m, rfl, _, g⟩⟩ := h
  · rw [dict_id, fzQ_ref (o := .dk (ks.zip xs)) (by simp) rfl]
    rw [List.map_fst_zip (by omega), List.map_snd_zip (by omega)]
    exact hq _ ((Kp.app 0 G _).setN (Nat.le_refl _))
  · rw [dict_D g, fzQ_ref (o := .dk (ks.zip xs)) (by simp) rfl]
    rw [List.map_fst_zip (by omega), List.map_snd_zip (by omega)]
    exact hq _ ((Kp.app 0 G _).setN (Nat.le_refl _))
theorem st_c {QU : Unit → Hs → Prop} {n : Nat} {f : Str} {u : AV} {fs fs' : List (Str × AV)} (hn : G[n]? = some (.ins "Code" fs)) (hl : fs.length < 1000) (e : putFA f u fs = fs') (fr : Pl.FrP (fun m => m = n) G0 G) (hq : ∀ G', G'[n]? = some (.ins "Code" fs') → Pl.FrP (fun m => m = n) G0 G' → QU () G') : (fSt ["Code"] f (.ref n) u G).wp QU E := by
  rw [st_wp hn cm hl, e]
  exact hq _ (Pl.set_self hn) (fr.set rfl)
theorem code_init {n : Nat} {R N : List AV} {r t : Int} {x1 x2 x3 v c : AV} (hn : G[n]? = some (.ins "Code" [])) (d1 : DAs G n x1 qk [.int r]) (d2 : DAs G n x2 qk [.int t]) (d3 : DAs G n x3 qk [v])
    (hq : ∀ G', G'[n]? = some (.ins "Code" [(("rows" : Str), (.tup R : AV)), (("notes" : Str), (.tup N : AV)), (("entries" : Str), (.id qk [.int r] : AV)), (("thunks" : Str), (.id qk [.int t] : AV)), (("vows" : Str), (.id qk [v] : AV)), (("common" : Str), (c : AV)), (("book" : Str), (bkQ : AV)), (("leads" : Str), (.ls (lds r t) : AV))]) → Pl.FrP (fun m => m = n) G G' → QV .non G') :
    (f_Code___init__ [.ref n, .tup R, .tup N, x1, x2, x3, c, bkQ] G).wp QV E := by
  have f0 : Pl.FrP (fun m => m = n) G G := Pl.FrP.refl
  unfold f_Code___init__ b_Code___init__
  simp_arith []
  rw [tuple_T]
  simp_arith []
  refine st_c (fs' := [(("rows" : Str), (.tup R : AV))]) hn (by simp) (by simp [putFA]) f0 fun G1 n1 f1 => ?_
  unfold k_Code___init___2
  simp_arith []
  rw [tuple_T]
  simp_arith []
  refine st_c (fs' := [(("rows" : Str), (.tup R : AV)), (("notes" : Str), (.tup N : AV))]) n1 (by simp) (by simp [putFA, ofS_inj]) f1 fun G2 n2 f2 => ?_
  unfold k_Code___init___3
  simp_arith []
  rw [wp_fz]
  simp_arith []
  refine dict_fz (d1.fr f2) fun H2 k2 => ?_
  refine st_c (fs' := [(("rows" : Str), (.tup R : AV)), (("notes" : Str), (.tup N : AV)), (("entries" : Str), (.id qk [.int r] : AV))]) (k2.get0 n2) (by simp) (by simp [putFA, ofS_inj]) (f2.trans (.kp k2)) fun G3 n3 f3 => ?_
  unfold k_Code___init___4
  simp_arith []
  rw [wp_fz]
  simp_arith []
  refine dict_fz (d2.fr f3) fun H3 k3 => ?_
  refine st_c (fs' := [(("rows" : Str), (.tup R : AV)), (("notes" : Str), (.tup N : AV)), (("entries" : Str), (.id qk [.int r] : AV)), (("thunks" : Str), (.id qk [.int t] : AV))]) (k3.get0 n3) (by simp) (by simp [putFA, ofS_inj]) (f3.trans (.kp k3)) fun G4 n4 f4 => ?_
  unfold k_Code___init___5
  simp_arith []
  rw [wp_fz]
  simp_arith []
  refine dict_fz (d3.fr f4) fun H4 k4 => ?_
  refine st_c (fs' := [(("rows" : Str), (.tup R : AV)), (("notes" : Str), (.tup N : AV)), (("entries" : Str), (.id qk [.int r] : AV)), (("thunks" : Str), (.id qk [.int t] : AV)), (("vows" : Str), (.id qk [v] : AV))]) (k4.get0 n4) (by simp) (by simp [putFA, ofS_inj]) (f4.trans (.kp k4)) fun G5 n5 f5 => ?_
  unfold k_Code___init___6
  simp_arith []
  refine st_c (fs' := [(("rows" : Str), (.tup R : AV)), (("notes" : Str), (.tup N : AV)), (("entries" : Str), (.id qk [.int r] : AV)), (("thunks" : Str), (.id qk [.int t] : AV)), (("vows" : Str), (.id qk [v] : AV)), (("common" : Str), (c : AV))]) n5 (by simp) (by simp [putFA, ofS_inj]) f5 fun G6 n6 f6 => ?_
  unfold k_Code___init___7
  simp_arith []
  refine st_c (fs' := [(("rows" : Str), (.tup R : AV)), (("notes" : Str), (.tup N : AV)), (("entries" : Str), (.id qk [.int r] : AV)), (("thunks" : Str), (.id qk [.int t] : AV)), (("vows" : Str), (.id qk [v] : AV)), (("common" : Str), (c : AV)), (("book" : Str), (bkQ : AV))]) n6 (by simp) (by simp [putFA, ofS_inj]) f6 fun G7 n7 f7 => ?_
  unfold k_Code___init___8
  simp_arith []
  rw [wp_fld n7 cm (v := .id qk [.int r]) (by simp [List.lookup, beqS])]
  simp_arith []
  rw [wp_fld n7 cm (v := .id qk [.int t]) (by simp [List.lookup, beqS])]
  simp_arith []
  refine leads_wp fun G8 k8 => ?_
  refine st_c (fs' := [(("rows" : Str), (.tup R : AV)), (("notes" : Str), (.tup N : AV)), (("entries" : Str), (.id qk [.int r] : AV)), (("thunks" : Str), (.id qk [.int t] : AV)), (("vows" : Str), (.id qk [v] : AV)), (("common" : Str), (c : AV)), (("book" : Str), (bkQ : AV)), (("leads" : Str), (.ls (lds r t) : AV))]) (k8.get0 n7) (by simp) (by simp [putFA, ofS_inj]) (f7.trans (.kp k8)) fun G9 n9 f9 => ?_
  exact hq _ n9 f9
theorem DAs.app {x : AV} {ks : List Key} {vs : List AV} {o : AO} (h : DAs G G.length x ks vs) : DAs (G ++ [o]) G.length x ks vs := by
  obtain ⟨hl, h | ⟨m, e, hm, g⟩⟩ := h
  · exact ⟨hl, .inl h⟩
  · exact ⟨hl, .inr ⟨m, e, hm, by rw [List.getElem?_append_left (List.getElem?_eq_some_iff.mp g).1]; exact g⟩⟩
theorem das_id {n : Nat} {ks : List Key} {vs : List AV} (h : ks.length = vs.length) : DAs G n (.id ks vs) ks vs := ⟨h, .inl rfl⟩
theorem das_ref {m : Nat} {ks : List Key} {vs : List AV} (h : ks.length = vs.length) (g : G[m]? = some (.dk (ks.zip vs))) : DAs G G.length (.ref m) ks vs :=
  ⟨h, .inr ⟨m, rfl, (fun z => by rw [z, List.getElem?_eq_none (Nat.le_refl _)] at g; cases g), g⟩⟩
theorem kp_put {n : Nat} {c : Str} {o : AO} (he : n = G.length) {G4 : Hs} (f4 : Pl.FrP (fun m => m = n) (G ++ [AO.ins c []]) G4) : Kp 0 G (G4.set n o) := by
  subst he
  refine ⟨by rw [List.length_set]; have := f4.le; simp at this; omega, fun m _ hm => ?_⟩
  rw [Pl.set_other (by omega)]
  have := f4.at_ m (by omega) (by simp; omega)
  rw [this, List.getElem?_append_left hm]
theorem mk_code {R N : List AV} {r t : Int} {x1 x2 x3 v c : AV} (d1 : DAs G G.length x1 qk [.int r]) (d2 : DAs G G.length x2 qk [.int t]) (d3 : DAs G G.length x3 qk [v]) (hq : ∀ G', Kp 0 G G' → QV (codeQ R N r t v c) G') :
    (f_Code___init__ [.ref G.length, .tup R, .tup N, x1, x2, x3, c, bkQ] (G ++ [AO.ins "Code" []])).wp (fun v G' => v = .non ∧ fzQ QV (.ref G.length) G') E := by
  have hn : (G ++ [AO.ins "Code" []])[G.length]? = some (.ins "Code" []) := by simp
  refine code_init hn d1.app d2.app d3.app fun G4 n4 f4 => ⟨rfl, ?_⟩
  rw [fzQ_ins n4]
  exact hq _ (kp_put rfl f4)
theorem mk_fn {f : Pl.Fn} (hq : ∀ G', Kp 0 G G' → QV f.av G') : (f_Function___init__ [.ref G.length, .str f.name, .tup (Pl.strA f.params), .tup (Pl.bdA f.body), .int f.results, .bl f.more] (G ++ [AO.ins "Function" []])).wp (fun v G' => v = .non ∧ fzQ QV (.ref G.length) G') E := by
  have hnF : (G ++ [AO.ins "Function" []])[G.length]? = some (.ins "Function" []) := by simp
  refine fninit_wp (f := f) hnF fun G2 n2 f2 => ⟨rfl, ?_⟩
  rw [fzQ_ins n2]
  exact hq _ (kp_put rfl f2)
theorem mk_bk {fs : List Pl.Fn} (h : bookOk fs = true) (hq : ∀ G', Kp 0 G G' → QV (Pl.bookA fs) G') : (f_Book___init__ [.ref G.length, .tup (fs.map Pl.Fn.av)] (G ++ [AO.ins "Book" []])).wp (fun v G' => v = .non ∧ fzQ QV (.ref G.length) G') E := by
  have hnB : (G ++ [AO.ins "Book" []])[G.length]? = some (.ins "Book" []) := by simp
  refine bookV_wp (fs := fs) (fun _ _ => tuple_T) h hnB fun G4 n4 f4 => ⟨rfl, ?_⟩
  rw [fzQ_ins n4]
  exact hq _ (kp_put rfl f4)
end
end L_k76
namespace L_k76
open PySem L2 Vz
section
variable {QV : AV → Hs → Prop} {QB : Bool → Hs → Prop} {E : XQ} {G G0 : Hs} {ρ : En} {D : SP} {R N : List AV} {r t : Int} {v c x : AV}
theorem fc_rows : (fFld ["Code"] "rows" (codeQ R N r t v c) G).wp QV E = QV (.tup R) G := fld_iv cm (by simp [cN8, List.lookup, beqS])
theorem fc_notes : (fFld ["Code"] "notes" (codeQ R N r t v c) G).wp QV E = QV (.tup N) G := fld_iv cm (by simp [cN8, List.lookup, beqS])
theorem fc_entries : (fFld ["Code"] "entries" (codeQ R N r t v c) G).wp QV E = QV (.id qk [.int r]) G := fld_iv cm (by simp [cN8, List.lookup, beqS])
theorem fc_thunks : (fFld ["Code"] "thunks" (codeQ R N r t v c) G).wp QV E = QV (.id qk [.int t]) G := fld_iv cm (by simp [cN8, List.lookup, beqS])
theorem fc_vows : (fFld ["Code"] "vows" (codeQ R N r t v c) G).wp QV E = QV (.id qk [v]) G := fld_iv cm (by simp [cN8, List.lookup, beqS])
theorem fc_common : (fFld ["Code"] "common" (codeQ R N r t v c) G).wp QV E = QV c G := fld_iv cm (by simp [cN8, List.lookup, beqS])
theorem fc_book : (fFld ["Code"] "book" (codeQ R N r t v c) G).wp QV E = QV bkQ G := fld_iv cm (by simp [cN8, List.lookup, beqS])
theorem insQ {f : Str} (h : f ∉ cN8 := by decide +kernel) : insOf "Code" f G (codeQ R N r t v c) = true := by simp [insOf, codeQ, h]
theorem need_wp {p : Int} (hy : 0 ≤ p → p < (R.length : Int) → QV .non G) (hn : ¬ (0 ≤ p ∧ p < (R.length : Int)) → E "NoRow" (mkX [("at", 1)] [.int p]) G) : (f_Code_need_row [codeQ R N r t v c, .int p] G).wp QV E := by
  unfold f_Code_need_row b_Code_need_row
  simp_arith []
  by_cases h : p < 0
  · rw [decide_eq_true h]
    simp_arith [wp_raise]
    exact ⟨by decide, hn (by omega)⟩
  · rw [decide_eq_false h]
    simp_arith []
    rw [fc_rows]
    simp_arith [len_T]
    by_cases h2 : p ≥ (R.length : Int)
    · rw [decide_eq_true h2]
      simp_arith [wp_raise]
      exact ⟨by decide, hn (by omega)⟩
    · rw [decide_eq_false h2]
      simp_arith []
      exact hy (by omega) (by omega)
theorem addT {xs ys : List AV} (h : xs.length + ys.length ≤ szl) : (fAddI (.tup xs) (.tup ys) G).wp QV E = QV (.tup (xs ++ ys)) G := by
  show (fAdd (.tup xs) (.tup ys) G).wp QV E = _
  simp only [fAdd, tupOf, if_pos h]
  cases xs with
  | nil => rfl
  | cons x xs => cases ys with
    | nil => rw [List.append_nil]; rfl
    | cons y ys => rfl
theorem slT {ys zs : List AV} {lo hi : Option Int} (e : cutA ys lo hi = zs) : (fSl (.tup ys) lo hi G).wp (fzQ QV) E = QV (.tup zs) G := by rw [sl_tup, fzQ_tup, e]
theorem set_cut {xs : List AV} {k : Nat} (h : k < xs.length) : xs.take k ++ [x] ++ xs.drop (k + 1) = xs.set k x := by
  rw [List.set_eq_take_append_cons_drop, if_pos h, List.append_assoc]
  rfl
theorem row_no {p : Int} (hn : ¬ (0 ≤ p ∧ p < (R.length : Int))) (hq : E "NoRow" (mkX [("at", 1)] [.int p]) G) : (f_Code_with_row [codeQ R N r t v c, .int p, x] G).wp QV E := by
  unfold f_Code_with_row b_Code_with_row
  simp_arith []
  refine ⟨insQ, ?_⟩
  exact need_wp (fun h0 h1 => absurd ⟨h0, h1⟩ hn) fun _ => hq
theorem note_no {p : Int} (hn : ¬ (0 ≤ p ∧ p < (R.length : Int))) (hq : E "NoRow" (mkX [("at", 1)] [.int p]) G) : (f_Code_with_note [codeQ R N r t v c, .int p, x] G).wp QV E := by
  unfold f_Code_with_note b_Code_with_note
  simp_arith []
  refine ⟨insQ, ?_⟩
  exact need_wp (fun h0 h1 => absurd ⟨h0, h1⟩ hn) fun _ => hq
theorem row_wp {k : Nat} (hk : k < R.length) (hz : R.length ≤ 1000) (hq : ∀ G', Kp 0 G G' → QV (codeQ (R.set k x) N r t v c) G') : (f_Code_with_row [codeQ R N r t v c, .int (k : Nat), x] G).wp QV E := by
  have esz := szl_eq
  unfold f_Code_with_row b_Code_with_row
  simp_arith []
  refine ⟨insQ, ?_⟩
  refine need_wp (fun _ _ => ?_) fun h => absurd ⟨by omega, by omega⟩ h
  simp_arith []
  unfold k_Code_with_row_2
  simp_arith []
  rw [wp_fz]
  simp_arith []
  rw [fc_rows]
  simp_arith []
  rw [slT (cut_takeN (Nat.le_of_lt hk))]
  simp_arith []
  rw [addT (by simp; omega)]
  simp_arith []
  rw [wp_fz]
  simp_arith []
  rw [fc_rows]
  simp_arith []
  rw [show ((k : Nat) : Int) + 1 = ((k + 1 : Nat) : Int) by omega, slT (cut_fromN (by omega))]
  simp_arith []
  rw [addT (by simp; omega), set_cut hk]
  simp_arith []
  unfold k_Code_with_row_3
  simp_arith []
  rw [wp_fz]
  simp_arith [fc_notes, fc_entries, fc_thunks, fc_vows, fc_common, fc_book]
  exact mk_code (das_id rfl) (das_id rfl) (das_id rfl) hq
theorem note_wp {k : Nat} (hk : k < R.length) (hl : N.length = R.length) (hz : R.length ≤ 1000) (hq : ∀ G', Kp 0 G G' → QV (codeQ R (N.set k x) r t v c) G') : (f_Code_with_note [codeQ R N r t v c, .int (k : Nat), x] G).wp QV E := by
  have esz := szl_eq
  unfold f_Code_with_note b_Code_with_note
  simp_arith []
  refine ⟨insQ, ?_⟩
  refine need_wp (fun _ _ => ?_) fun h => absurd ⟨by omega, by omega⟩ h
  simp_arith []
  unfold k_Code_with_note_2
  simp_arith []
  rw [wp_fz]
  simp_arith []
  rw [fc_notes]
  simp_arith []
  rw [slT (cut_takeN (by omega))]
  simp_arith []
  rw [addT (by simp; omega)]
  simp_arith []
  rw [wp_fz]
  simp_arith []
  rw [fc_notes]
  simp_arith []
  rw [show ((k : Nat) : Int) + 1 = ((k + 1 : Nat) : Int) by omega, slT (cut_fromN (by omega))]
  simp_arith []
  rw [addT (by simp; omega), set_cut (by omega)]
  simp_arith []
  unfold k_Code_with_note_3
  simp_arith []
  rw [wp_fz]
  simp_arith [fc_rows, fc_entries, fc_thunks, fc_vows, fc_common, fc_book]
  exact mk_code (das_id rfl) (das_id rfl) (das_id rfl) hq
end
end L_k76
namespace L_k76
open PySem L2 Vz
/-- what rows and notes are -/
structure Rn (v : AV) : Prop where
  nice : niceV v 4 = true
  bulk : (avd v).bulk ≤ 200
mutual
theorem nice_mono : ∀ (v : AV) (a b : Nat), a ≤ b → niceV v a = true → niceV v b = true
  | .non, _, _, _, _ => rfl
  | .bl _, _, _, _, _ => rfl
  | .int i, _, _, _, h => by rw [niceV] at h ⊢; exact h
  | .str s, _, _, _, h => by rw [niceV] at h ⊢; exact h
  | .tup xs, 0, _, _, h => by simp [niceV] at h
  | .tup xs, a + 1, 0, l, _ => by omega
  | .tup xs, a + 1, b + 1, l, h => by rw [niceV] at h ⊢; exact nices_mono xs a b (by omega) h
  | .con xs, 0, _, _, h => by simp [niceV] at h
  | .con xs, a + 1, 0, l, _ => by omega
  | .con xs, a + 1, b + 1, l, h => by rw [niceV] at h ⊢; exact nices_mono xs a b (by omega) h
  | .lk xs, 0, _, _, h => by simp [niceV] at h
  | .lk xs, a + 1, 0, l, _ => by omega
  | .lk xs, a + 1, b + 1, l, h => by rw [niceV] at h ⊢; exact nices_mono xs a b (by omega) h
  | .ls xs, 0, _, _, h => by simp [niceV] at h
  | .ls xs, a + 1, 0, l, _ => by omega
  | .ls xs, a + 1, b + 1, l, h => by rw [niceV] at h ⊢; exact nices_mono xs a b (by omega) h
  | .iv _ _ _, _, _, _, h => by simp [niceV] at h
  | .id _ _, _, _, _, h => by simp [niceV] at h
  | .it _ _, _, _, _, h => by simp [niceV] at h
  | .xv _ _ _, _, _, _, h => by simp [niceV] at h
  | .ref _, _, _, _, h => by simp [niceV] at h
theorem nices_mono : ∀ (xs : List AV) (a b : Nat), a ≤ b → niceVs xs a = true → niceVs xs b = true
  | [], _, _, _, _ => rfl
  | x :: xs, a, b, l, h => by
    rw [niceVs, Bool.and_eq_true] at h ⊢
    exact ⟨nice_mono x a b l h.1, nices_mono xs a b l h.2⟩
end
/-- a register or a cell -/
def Spot (v : AV) : Prop := ∃ (w : Str) (n : Int), v = .tup [.str w, .int n] ∧ niceS w = true ∧ w.cps.size ≤ 8 ∧ n.natAbs ≤ 2000000000
theorem rn_tup {xs : List AV} (h1 : niceVs xs 3 = true) (h2 : (avd (.tup xs)).bulk ≤ 200) : Rn (.tup xs) := ⟨by rw [niceV]; exact h1, h2⟩
def Pair (v : AV) : Prop := ∃ (k : Int) (x : AV), v = .tup [.int k, x] ∧ k.natAbs ≤ 100 ∧ (x = .non ∨ ∃ i : Int, x = .int i ∧ i.natAbs ≤ 100)
theorem note_rn {h : Int} {u l : AV} {xs : List AV} (hh : h.natAbs ≤ 100) (hu : Spot u) (hx : ∀ v ∈ xs, Pair v) (hl : xs.length ≤ 12) (he : l = .non ∨ ∃ a b c : Int, l = .tup [.int a, .int b, .int c] ∧ a.natAbs ≤ 100 ∧ b.natAbs ≤ 100 ∧ c.natAbs ≤ 100) :
    Rn (.tup [.int h, u, .tup xs, l]) := by
  obtain ⟨v, n, rfl, h1, h2, h3⟩ := hu
  have nx : niceVs xs 2 = true := niceVs_all fun v hv => by
    obtain ⟨k, x, rfl, hk, rfl | ⟨i, rfl, hi⟩⟩ := hx v hv
    · simp only [niceVs, niceV, Bool.and_true, decide_eq_true_eq]
      omega
    · simp only [niceVs, niceV, Bool.and_true, Bool.and_eq_true, decide_eq_true_eq]
      omega
  have bx : PyData.bulkAll (avds xs) ≤ 12 * 3 := Nat.le_trans (bulk_avds (c := 2) fun v hv => by
    obtain ⟨k, x, rfl, hk, rfl | ⟨i, rfl, hi⟩⟩ := hx v hv
    · simp [avd, avds, PyData.bulk, PyData.bulkAll]
    · simp [avd, avds, PyData.bulk, PyData.bulkAll]) (Nat.mul_le_mul_right _ hl)
  rcases he with rfl | ⟨a, b, c, rfl, ha, hb, hc⟩
  · refine rn_tup ?_ ?_
    · simp only [niceVs, niceV, h1, nx, Bool.true_and, Bool.and_true, decide_eq_true_eq, Bool.and_eq_true]
      omega
    · simp only [avd, avds, PyData.bulk, PyData.bulkAll]
      omega
  · refine rn_tup ?_ ?_
    · simp only [niceVs, niceV, h1, nx, Bool.true_and, Bool.and_true, decide_eq_true_eq, Bool.and_eq_true]
      omega
    · simp only [avd, avds, PyData.bulk, PyData.bulkAll]
      omega
def tl (R N : List AV) (r t : Int) (v c : AV) : List AV := [.tup R, .tup N, .id qk [.int r], .id qk [.int t], .id qk [v], c, .ls [.str "fa"]]
section
variable {QV : AV → Hs → Prop} {QB : Bool → Hs → Prop} {E : XQ} {G G0 : Hs} {ρ : En} {D : SP} {R N : List AV} {r t : Int} {v c x : AV} {b t0 s nv : Nat}
theorem told_wp (hq : ∀ G', Kp 0 G G' → QV (.ls (tl R N r t v c)) G') : (f_law_told [codeQ R N r t v c] G).wp QV E := by
  have esz := szl_eq
  unfold f_law_told b_law_told
  rw [wp_mFn, wp_seq, wp_fzSet (by simp [startA])]
  refine wp_lcM (vs := [fnQ.av]) (G0 := G) (wk_ok (v := .tup [fnQ.av]) (eq_of_wp (by
    simp_arith []
    rw [fc_book]
    simp_arith []
    unfold bkQ
    rw [fl_funs]
    exact ⟨rfl, rfl⟩)) rfl) (Kp.refl _ _) (fun _ => .str "fa") (by simp; omega) (fun v hv G3 k3 => ?_) fun G3 k3 => ?_
  · obtain rfl : v = fnQ.av := List.mem_singleton.mp hv
    refine ⟨_, rfl, ?_⟩
    simp_arith []
    rw [fn_name (List.mem_singleton.mpr rfl)]
    exact ⟨rfl, Kp.refl _ _⟩
  simp_arith []
  unfold k_law_told_2
  simp_arith [fc_rows, fc_notes, fc_entries, fc_thunks, fc_vows, fc_common]
  exact hq _ k3
theorem same_nice {n : Nat} {v : AV} (h : niceV v 11 = true) : sameX G (n + 1) v v = true := by
  have e : eqF G v v = some true := by
    rw [eqF_sm sm_refl sm_refl h h, SeqAt.eqv_refl _ (avd_nice v 11 h).ly]
  rw [sameX, e]
  simp
theorem same_id {n : Nat} {x : AV} (h : sameX G n x x = true) : sameX G (n + 1) (.id qk [x]) (.id qk [x]) = true := by
  rw [sameX]
  simp [dkR, qk, getA, h]
theorem same_ref {n : Nat} {fs : List (Str × AV)} (h : G[nv]? = some (.ins "Vow" fs)) : sameX G (n + 1) (.ref nv) (.ref nv) = true := by
  rw [sameX]
  simp [sameN, h]
theorem rows_nice (hR : ∀ v ∈ R, Rn v) : niceV (.tup R) 11 = true := by
  rw [niceV]
  exact niceVs_all fun v hv => nice_mono v 4 10 (by omega) (hR v hv).nice
theorem tl_same (hR : ∀ v ∈ R, Rn v) (hN : ∀ v ∈ N, Rn v) (hr : r.natAbs < 10 ^ 40) (ht : t.natAbs < 10 ^ 40) {fs : List (Str × AV)} (h : G[nv]? = some (.ins "Vow" fs)) : all2 (sameX G 8) (tl R N r t (.ref nv) (.ref nv)) (tl R N r t (.ref nv) (.ref nv)) = true := by
  have i1 : ∀ {i : Int}, i.natAbs < 10 ^ 40 → niceV (.int i) 11 = true := fun h => by rw [niceV]; exact decide_eq_true h
  have q : niceS "fa" = true := by decide +kernel
  have e7 : niceV (.ls [.str "fa"]) 11 = true := by simp [niceV, niceVs, q]
  simp only [tl, all2, same_nice (n := 7) (rows_nice hR), same_nice (n := 7) (rows_nice hN), same_id (n := 7) (same_nice (n := 6) (i1 hr)), same_id (n := 7) (same_nice (n := 6) (i1 ht)), same_id (n := 7) (same_ref (n := 6) h), same_ref (n := 7) h, same_nice (n := 7) e7, Bool.and_self]
theorem pickI_wp {xs : List AV} (h : Dr b t0 s G) (ht : t0 < 2 ^ 60) (h0 : 0 < xs.length) (h1 : xs.length < 1000)
    (hq : ∀ x G', x ∈ xs → Dr b (t0 + 1) s G' → Kp b G G' → QV x G') : (f_law_pick [.ref s, .ls xs] G).wp QV E := by
  unfold f_law_pick b_law_pick
  simp_arith [take_eq]
  refine take_wp h (by omega) (by omega) ht fun r G' r0 r1 h' k => ?_
  have hi : r.toNat < xs.length := by omega
  rw [ix_ls r0 r1 (List.getElem?_eq_getElem hi)]
  exact hq _ _ (List.getElem_mem hi) h' k
theorem row2 {u : AV} {w : Str} (ha : Spot u) (hw : niceS w = true) (hs : w.cps.size ≤ 8) : Rn (.tup [.str w, u]) := by
  obtain ⟨v, n, rfl, h1, h2, h3⟩ := ha
  refine rn_tup ?_ ?_
  · simp only [niceVs, niceV, hw, h1, Bool.true_and, Bool.and_true, decide_eq_true_eq, Bool.and_eq_true]
    omega
  · simp only [avd, avds, PyData.bulk, PyData.bulkAll]
    omega
theorem row3 {w : Str} (hw : niceS w = true) (hs : w.cps.size ≤ 8) {i : Int} (hi : i.natAbs ≤ 2000000000) : Rn (.tup [.str w, .int i]) := by
  refine rn_tup ?_ ?_
  · simp only [niceVs, niceV, hw, Bool.true_and, Bool.and_true, decide_eq_true_eq, Bool.and_eq_true]
    omega
  · simp only [avd, avds, PyData.bulk, PyData.bulkAll]
    omega
theorem row5 {w w' : Str} (hw : niceS w = true) (hs : w.cps.size ≤ 8) (hw' : niceS w' = true) (hs' : w'.cps.size ≤ 8) : Rn (.tup [.str w, .str w']) := by
  refine rn_tup ?_ ?_
  · simp only [niceVs, niceV, hw, hw', Bool.true_and, Bool.and_true]
  · simp only [avd, avds, PyData.bulk, PyData.bulkAll]
    omega
theorem rowS {u u' : AV} {w : Str} (ha : Spot u) (hb : Spot u') (hw : niceS w = true) (hs : w.cps.size ≤ 8) : Rn (.tup [.str w, u, u']) := by
  obtain ⟨v, n, rfl, h1, h2, h3⟩ := ha
  obtain ⟨v', n', rfl, h1', h2', h3'⟩ := hb
  refine rn_tup ?_ ?_
  · simp only [niceVs, niceV, hw, h1, h1', Bool.true_and, Bool.and_true, decide_eq_true_eq, Bool.and_eq_true]
    omega
  · simp only [avd, avds, PyData.bulk, PyData.bulkAll]
    omega
theorem rowW {u u' : AV} {w : Str} (ha : Spot u) (hb : Spot u') (hw : niceS w = true) (hs : w.cps.size ≤ 8) {i : Int} (hi : i.natAbs ≤ 2000000000) : Rn (.tup [.str w, u, u', .tup [.str "n", .int i]]) := by
  obtain ⟨v, n, rfl, h1, h2, h3⟩ := ha
  obtain ⟨v', n', rfl, h1', h2', h3'⟩ := hb
  have q : niceS "n" = true := by decide +kernel
  have q2 : ("n" : Str).cps.size = 1 := by decide +kernel
  refine rn_tup ?_ ?_
  · simp only [niceVs, niceV, hw, h1, h1', q, Bool.true_and, Bool.and_true, decide_eq_true_eq, Bool.and_eq_true]
    omega
  · simp only [avd, avds, PyData.bulk, PyData.bulkAll, q2]
    omega
theorem rowF {u u' : AV} {w : Str} (ha : Spot u) (hb : Spot u') (hw : niceS w = true) (hs : w.cps.size ≤ 8) {i : Int} (hi : i.natAbs ≤ 2000000000) : Rn (.tup [.str w, u, u', .int i, .int 1]) := by
  obtain ⟨v, n, rfl, h1, h2, h3⟩ := ha
  obtain ⟨v', n', rfl, h1', h2', h3'⟩ := hb
  refine rn_tup ?_ ?_
  · simp only [niceVs, niceV, hw, h1, h1', Bool.true_and, Bool.and_true, decide_eq_true_eq, Bool.and_eq_true]
    omega
  · simp only [avd, avds, PyData.bulk, PyData.bulkAll]
    omega
theorem rowE {u : AV} {w : Str} (ha : Spot u) (hw : niceS w = true) (hs : w.cps.size ≤ 8) : Rn (.tup [.str w, .tup [u, u]]) := by
  obtain ⟨v, n, rfl, h1, h2, h3⟩ := ha
  refine rn_tup ?_ ?_
  · simp only [niceVs, niceV, hw, h1, Bool.true_and, Bool.and_true, decide_eq_true_eq, Bool.and_eq_true]
    omega
  · simp only [avd, avds, PyData.bulk, PyData.bulkAll]
    omega
theorem rowL : Rn (.tup [.str "leave", .tup [.str "p"], .int 2]) := by
  have q : niceS "leave" = true := by decide +kernel
  have q2 : niceS "p" = true := by decide +kernel
  have q3 : ("leave" : Str).cps.size = 5 := by decide +kernel
  have q4 : ("p" : Str).cps.size = 1 := by decide +kernel
  refine rn_tup ?_ ?_
  · simp [niceVs, niceV, q, q2]
  · simp [avd, avds, PyData.bulk, PyData.bulkAll, q3, q4]
theorem place_wp (hd : Dr b t0 s G) (ht : t0 + 3 < 2 ^ 60) (hq : ∀ u G', Spot u → Dr b (t0 + 3) s G' → Kp b G G' → QV u G') : (f_law_place [.ref s] G).wp QV E := by
  unfold f_law_place b_law_place
  simp_arith [take_eq]
  refine take_wp hd (by decide) (by decide) (by omega) fun r1 G1 a1 b1 d1 k1 => ?_
  simp_arith [take_eq]
  refine take_wp d1 (by decide) (by decide) (by omega) fun r2 G2 a2 b2 d2 k2 => ?_
  simp_arith [take_eq]
  refine take_wp d2 (by decide) (by decide) (by omega) fun r3 G3 a3 b3 d3 k3 => ?_
  rcases (show r3 = 0 ∨ r3 = 1 by omega) with q | q <;> subst q
  · simp_arith []
    exact hq _ _ ⟨_, _, rfl, by decide +kernel, by decide +kernel, by omega⟩ d3 ((k1.trans k2).trans k3)
  · simp_arith []
    exact hq _ _ ⟨_, _, rfl, by decide +kernel, by decide +kernel, by omega⟩ d3 ((k1.trans k2).trans k3)
end
end L_k76
namespace L_k76
open PySem L2 Vz
section
variable {QV : AV → Hs → Prop} {QB : Bool → Hs → Prop} {E : XQ} {G G0 : Hs} {ρ : En} {D : SP} {R N : List AV} {v c x : AV} {b t s : Nat}
theorem neg_int {i : Int} : (fNeg (.int i) G).wp QV E = QV (.int (-i)) G := propext Iff.rfl
/-- what is kept of items, by a test that draws, by an item that draws -/
theorem wp_lcTD {mi : MI} {g : MG} {tt : MB} {m : ME} {own : List Nat} {vs : List AV} (hk : mi ρ G = .ok (vs, none) G0) (k0 : Kp b G G0) (hd : Dr b t s G0) (c : Nat) (T : AV → Prop) (hl : vs.length ≤ szl)
    (hb : ∀ j v G1, vs[j]? = some v → Dr b (t + c * j) s G1 → ∃ ρ1, g v (wipeA ρ own) G1 = .ok ρ1 G1 ∧ (tt ρ1 G1).wp (fun k G2 => if k = true then (m ρ1 G2).wp (fun r G3 => T r ∧ Dr b (t + c * (j + 1)) s G3 ∧ Kp b G1 G3) noX else Dr b (t + c * (j + 1)) s G2 ∧ Kp b G1 G2) noX)
    (hq : ∀ (xs : List AV) (G' : Hs), xs.length ≤ vs.length → (∀ r ∈ xs, T r) → Dr b (t + c * vs.length) s G' → Kp b G G' → QV (.ls xs) G') : (mFz (mLc mi g tt m own) ρ G).wp QV E := by
  rw [wp_fz]
  refine wp_lcK hk (fun j acc G1 => acc.length ≤ j ∧ (∀ r ∈ acc, T r) ∧ Dr b (t + c * j) s G1 ∧ Kp b G0 G1) ⟨Nat.le_refl _, (fun _ h => nomatch h), hd.app, Kp.app _ _ _⟩ (fun _ _ _ _ _ => True.intro)
    (fun j v acc G1 hv ⟨ha, hT, hd1, hk1⟩ hD => ?_) fun acc G1 hD ⟨ha, hT, hd1, hk1⟩ => ?_
  · have hv : vs[j]? = some v := hv
    have hj : j < vs.length := (List.getElem?_eq_some_iff.mp hv).1
    obtain ⟨ρ1, e1, w⟩ := hb j v G1 hv hd1
    refine ⟨ρ1, G1, e1, ?_⟩
    refine w.mono (fun k G3 h3 => ?_) fun _ _ _ x => x
    cases k with
    | false =>
      rw [if_neg (by decide)] at h3
      rw [if_neg (by decide)]
      exact ⟨h3.2.get hd.bl hD, by omega, hT, h3.1, hk1.trans h3.2⟩
    | true =>
      rw [if_pos rfl] at h3
      rw [if_pos rfl]
      refine h3.mono (fun r G4 ⟨er, d4, k4⟩ => ?_) fun _ _ _ x => x
      refine ⟨k4.get hd.bl hD, by omega, by simp; omega, fun r' hr' => ?_, d4.setN hd.bl, (hk1.trans k4).setN (Nat.le_refl _)⟩
      rcases List.mem_append.mp hr' with hr' | hr'
      · exact hT r' hr'
      · rw [List.mem_singleton.mp hr']; exact er
  · show fzQ QV (.ref G0.length) G1
    rw [fzQ_lst hD]
    exact hq acc _ ha hT (hd1.setN hd.bl) ((k0.trans hk1).setN k0.le)
theorem row_draw (hd : Dr b t s G) (ht : t + 12 < 2 ^ 60) (hq : ∀ v G', Rn v → Dr b (t + 12) s G' → Kp b G G' → QV v G') : (f_law_row [.ref s] G).wp QV E := by
  have esz := szl_eq
  unfold f_law_row b_law_row
  simp_arith [take_eq]
  refine take_wp hd (by decide) (by decide) (by omega) fun kd G1 a1 b1 d1 k1 => ?_
  simp_arith []
  refine place_wp d1 (by omega) fun u G2 hu d2 k2 => ?_
  simp_arith []
  unfold k_law_row_2
  simp_arith []
  by_cases c0 : kd = 0
  · rw [decide_eq_true c0]
    simp_arith []
    refine place_wp d2 (by omega) fun u' G3 hu' d3 k3 => ?_
    simp_arith []
    exact hq _ _ (rowS hu hu' (by decide +kernel) (by decide +kernel)) (d3.mono (by omega)) ((k1.trans k2).trans k3)
  rw [decide_eq_false c0]
  simp_arith []
  unfold k_law_row_4
  simp_arith []
  by_cases c1 : kd = 1
  · rw [decide_eq_true c1]
    simp_arith []
    refine pickI_wp d2 (by omega) (by simp) (by simp) fun w G3 hw d3 k3 => ?_
    obtain ⟨w, rfl, hw1, hw2⟩ : ∃ w' : Str, w = .str w' ∧ niceS w' = true ∧ w'.cps.size ≤ 8 := by
      simp only [List.mem_cons, List.not_mem_nil, or_false] at hw
      rcases hw with e | e | e <;> exact ⟨_, e, by decide +kernel, by decide +kernel⟩
    simp_arith []
    refine place_wp d3 (by omega) fun u' G4 hu' d4 k4 => ?_
    simp_arith [take_eq]
    refine take_wp d4 (by decide) (by decide) (by omega) fun i G5 a5 b5 d5 k5 => ?_
    simp_arith []
    exact hq _ _ (rowW hu hu' hw1 hw2 (by omega)) (d5.mono (by omega)) ((((k1.trans k2).trans k3).trans k4).trans k5)
  rw [decide_eq_false c1]
  simp_arith []
  unfold k_law_row_6
  simp_arith []
  by_cases c2 : kd = 2
  · rw [decide_eq_true c2]
    simp_arith []
    refine pickI_wp d2 (by omega) (by simp) (by simp) fun w G3 hw d3 k3 => ?_
    obtain ⟨w, rfl, hw1, hw2⟩ : ∃ w' : Str, w = .str w' ∧ niceS w' = true ∧ w'.cps.size ≤ 8 := by
      simp only [List.mem_cons, List.not_mem_nil, or_false] at hw
      rcases hw with e | e | e <;> exact ⟨_, e, by decide +kernel, by decide +kernel⟩
    simp_arith [take_eq]
    refine take_wp d3 (by decide) (by decide) (by omega) fun i G5 a5 b5 d5 k5 => ?_
    simp_arith []
    exact hq _ _ (row3 hw1 hw2 (by omega)) (d5.mono (by omega)) (((k1.trans k2).trans k3).trans k5)
  rw [decide_eq_false c2]
  simp_arith []
  unfold k_law_row_8
  simp_arith []
  by_cases c3 : kd = 3
  · rw [decide_eq_true c3]
    simp_arith []
    refine place_wp d2 (by omega) fun u' G4 hu' d4 k4 => ?_
    simp_arith [take_eq]
    refine take_wp d4 (by decide) (by decide) (by omega) fun i G5 a5 b5 d5 k5 => ?_
    simp_arith []
    exact hq _ _ (rowF hu hu' (by decide +kernel) (by decide +kernel) (by omega)) (d5.mono (by omega)) (((k1.trans k2).trans k4).trans k5)
  rw [decide_eq_false c3]
  simp_arith []
  unfold k_law_row_10
  rcases (show kd = 4 ∨ kd = 5 ∨ kd = 6 ∨ kd = 7 by omega) with q | q | q | q <;> subst q
  · simp_arith []
    exact hq _ _ (row5 (by decide +kernel) (by decide +kernel) (by decide +kernel) (by decide +kernel)) (d2.mono (by omega)) (k1.trans k2)
  · simp_arith []
    exact hq _ _ rowL (d2.mono (by omega)) (k1.trans k2)
  · simp_arith []
    exact hq _ _ (row2 hu (by decide +kernel) (by decide +kernel)) (d2.mono (by omega)) (k1.trans k2)
  · simp_arith []
    exact hq _ _ (rowE hu (by decide +kernel) (by decide +kernel)) (d2.mono (by omega)) (k1.trans k2)
theorem note_draw (hd : Dr b t s G) (ht : t + 40 < 2 ^ 60) (hq : ∀ v G', Rn v → Dr b (t + 40) s G' → Kp b G G' → QV v G') : (f_law_note [.ref s] G).wp QV E := by
  have esz := szl_eq
  unfold f_law_note b_law_note
  rw [wp_mFn, wp_seq, wp_asg, wp_blt, wp_cons]
  have rl : (rgA 0 (12 : Int)).length = 12 := by rw [rgA_len]; rfl
  refine wp_lcTD (rg1_ok (n := 12) rfl (by decide) (by decide)) (Kp.refl _ _) hd 2 Pair (by rw [rl]; omega) (fun j v G1 hv d1 => ?_) fun xs G1 hl hT d1 k1 => ?_
  · obtain ⟨rfl, hj⟩ := rgA_get hv
    refine ⟨_, rfl, ?_⟩
    simp_arith [take_eq]
    refine take_wp d1 (by decide) (by decide) (by omega) fun i G2 a2 b2 d2 k2 => ?_
    simp_arith []
    by_cases c0 : i = 0
    · rw [decide_eq_true c0]
      simp_arith []
      refine pickI_wp d2 (by omega) (by simp) (by simp) fun w G3 hw d3 k3 => ?_
      refine ⟨⟨_, _, rfl, by omega, ?_⟩, d3.mono (by omega), k2.trans k3⟩
      simp only [List.mem_cons, List.not_mem_nil, or_false] at hw
      rcases hw with e | e | e
      · exact .inl e
      · exact .inr ⟨_, e, by decide⟩
      · exact .inr ⟨_, e, by decide⟩
    · rw [decide_eq_false c0]
      simp_arith []
      exact ⟨d2.mono (by omega), k2⟩
  rw [rl] at hl d1
  simp_arith []
  unfold k_law_note_2
  simp_arith [take_eq]
  refine take_wp d1 (by decide) (by decide) (by omega) fun i G2 a2 b2 d2 k2 => ?_
  simp_arith []
  refine pickI_wp d2 (by omega) (by simp) (by simp) fun l G3 hl3 d3 k3 => ?_
  simp_arith []
  unfold k_law_note_3
  simp_arith [take_eq]
  refine take_wp d3 (by decide) (by decide) (by omega) fun h G4 a4 b4 d4 k4 => ?_
  simp_arith [neg_int]
  refine pickI_wp d4 (by omega) (by simp) (by simp) fun u G5 hu d5 k5 => ?_
  simp_arith []
  refine hq _ _ (note_rn (by omega) ?_ hT (by omega) ?_) (d5.mono (by omega)) ((((k1.trans k2).trans k3).trans k4).trans k5)
  · simp only [List.mem_cons, List.not_mem_nil, or_false] at hu
    rcases hu with e | e | e <;> exact ⟨_, _, e, by decide +kernel, by decide +kernel, by decide⟩
  · simp only [List.mem_cons, List.not_mem_nil, or_false] at hl3
    rcases hl3 with e | e
    · exact .inl e
    · exact .inr ⟨_, _, _, e, by omega, by decide, by decide⟩
theorem fault_wp {r t p w : Int} (hn : ¬ (0 ≤ p ∧ p < (R.length : Int))) (hq : ∀ G', Kp 0 G G' → QV (.xv "NoRow" (mkX [("at", 1)] [.int p]).1 (mkX [("at", 1)] [.int p]).2) G') : (f_law_fault [codeQ R N r t v c, .int w, .int p] G).wp QV E := by
  have esz := szl_eq
  unfold f_law_fault b_law_fault
  simp_arith []
  unfold k_law_fault_2
  rw [wp_seq, wp_try]
  unfold t_law_fault_2
  rw [wpx_if]
  simp_arith []
  by_cases h : w = 0
  · rw [decide_eq_true h]
    simp_arith []
    rw [wpx_drop]
    simp_arith []
    refine ⟨insQ, row_no hn ?_⟩
    rw [catch_yes (by decide +kernel), wp_outH]
    simp_arith [inA, unA]
    exact hq _ (Kp.refl _ _)
  · rw [decide_eq_false h]
    simp_arith []
    rw [wpx_drop]
    simp_arith [neg_int]
    refine ⟨insQ, note_no hn ?_⟩
    rw [catch_yes (by decide +kernel), wp_outH]
    simp_arith [inA, unA]
    exact hq _ (Kp.refl _ _)
end
end L_k76
namespace L_k76
open PySem L2 Vz
theorem rglen {n : Nat} : (rgA 0 ((n : Nat) : Int)).length = n := by rw [rgA_len]; omega
/-- v is the list xs, inline or live -/
def Due (b : Nat) (v : AV) (xs : List AV) (G : Hs) : Prop := v = .ls xs ∨ ∃ n, v = .ref n ∧ b ≤ n ∧ G[n]? = some (.lst xs)
section
variable {QV : AV → Hs → Prop} {QB : Bool → Hs → Prop} {E : XQ} {G G0 : Hs} {ρ : En} {D : SP} {R N R' N' : List AV} {v c x z due : AV} {b t s nv m n16 : Nat} {r : Int}
theorem wp_gLs {mo mi : ME} {v : AV} : MG.wp (gLs mo mi v ρ G) D = (mo ρ G).wp (fun o G1 => (mi ρ G1).wp (fun i G2 => (fLs o i v G2).wp (fun _ G3 => D.nx ρ G3) noX) noX) noX := by
  unfold gLs
  cases mo ρ G with
  | ok o G1 =>
    simp only [R.bind_ok, R.wp]
    cases mi ρ G1 with
    | ok i G2 =>
      simp only [R.bind_ok]
      cases fLs o i v G2 <;> rfl
    | _ => rfl
  | _ => rfl
theorem fLs_L {m : Nat} {xs : List AV} {k : Nat} {v : AV} {QU : Unit → Hs → Prop} (h : G[m]? = some (.lst xs)) (h1 : k < xs.length) : (fLs (.ref m) (.int (k : Nat)) v G).wp QU E = QU () (G.set m (.lst (xs.set k v))) := by
  have e : ixN xs.length ((k : Nat) : Int) = some k := by
    unfold ixN
    rw [if_pos (by omega), if_pos (by omega)]
    simp
  simp only [fLs, h, e]
  rfl
theorem dict1_wp {me : ME} (h : (me ρ (G ++ [AO.dk []])).wp (fun v G1 => G1[G.length]? = some (.dk []) ∧ QV (.ref G.length) (G1.set G.length (.dk [(.inr "fa", v)]))) E) : (mDict [((mC (.str "fa")), me)] ρ G).wp QV E := by
  rw [wp_dict, wp_prs]
  simp_arith [kOf]
  refine h.mono (fun v G1 ⟨g, q⟩ => ?_) fun _ _ _ x => x
  rw [wp_prs0]
  exact ⟨⟨by simp, g⟩, q⟩
theorem xf_at {p : Int} : (fXfd ["NoRow"] "at" (.xv "NoRow" (mkX [("at", 1)] [.int p]).1 (mkX [("at", 1)] [.int p]).2) G).wp QV E = QV (.int p) G := by
  have e : fXfd ["NoRow"] "at" (.xv "NoRow" (mkX [("at", 1)] [.int p]).1 (mkX [("at", 1)] [.int p]).2) G = .ok (.int p) G := by simp [fXfd, mkX]
  rw [e, wp_ok]
theorem Due.kp {xs : List AV} {G' : Hs} (h : Due b v xs G) (k : Kp b G G') : Due b v xs G' := by
  rcases h with h | ⟨n, e, hb, g⟩
  · exact .inl h
  · exact .inr ⟨n, e, hb, k.get hb g⟩
theorem Due.l {xs : List AV} (h : Due b v xs G) : lstOf G v = some xs := by
  rcases h with rfl | ⟨n, rfl, hb, g⟩
  · rfl
  · simp only [lstOf, g]
theorem Due.seq {xs : List AV} (h : Due b v xs G) : seqOf G v = some xs := by
  rcases h with rfl | ⟨n, rfl, hb, g⟩
  · rfl
  · simp [seqOf, tupOf, lstOf, g]
theorem ix_due {xs : List AV} {k : Nat} {u : AV} (h : Due b v xs G) (e : xs[k]? = some u) : (fIx v (.int (k : Nat)) G).wp QV E = QV u G := by
  have hk := (List.getElem?_eq_some_iff.mp e).1
  have e1 := h.seq
  have e2 : atI xs ((k : Nat) : Int) = some u := by
    unfold atI
    have : ixN xs.length ((k : Nat) : Int) = some k := by
      unfold ixN
      rw [if_pos (by omega), if_pos (by omega)]
      simp
    simp only [this]
    exact e
  rcases h with rfl | ⟨n, rfl, hb, g⟩
  · simp only [fIx, e1, e2]
    rfl
  · simp only [fIx, e1, e2]
    rfl
theorem list_due {xs : List AV} (h : Due b v xs G) : (fList [v] G).wp QV E = QV (.ref G.length) (G ++ [.lst xs]) := by
  have e1 := h.seq
  rcases h with rfl | ⟨n, rfl, hb, g⟩
  · rfl
  · simp only [fList, e1]
    rfl
/-- what is known of the code -/
structure Knw (R N : List AV) (m : Nat) (r : Int) : Prop where
  hR : ∀ v ∈ R, Rn v
  hN : ∀ v ∈ N, Rn v
  lR : R.length = m
  lN : N.length = m
  m12 : m ≤ 12
  m1 : 1 ≤ m
  r : r.natAbs < 10 ^ 40
theorem set_rn {x : AV} {k : Nat} (hR : ∀ v ∈ R, Rn v) (hx : Rn x) : ∀ v ∈ R.set k x, Rn v := fun v hv => by
  rcases List.mem_or_eq_of_mem_set hv with h | h
  · exact hR v h
  · rw [h]; exact hx
abbrev tlV (R N : List AV) (r : Int) (nv : Nat) : List AV := tl R N r 2 (.ref nv) (.ref nv)
abbrev cdV (R N : List AV) (r : Int) (nv : Nat) : AV := codeQ R N r 2 (.ref nv) (.ref nv)
def ShL (z : AV) (s nv m : Nat) (code due : AV) (ρ : En) : Prop := ∃ o3 o5 o6 o7 o8 o11 o12 o13 o14 o15 o16 o17 o18 o19, ρ = [some z, some (.ref s), some (.ref nv), o3, some (.int (m : Nat)), o5, o6, o7, o8, some code, some due, o11, o12, o13, o14, o15, o16, o17, o18, o19]
theorem Knw.same {fs : List (Str × AV)} (K : Knw R N m r) (h : G[nv]? = some (.ins "Vow" fs)) : all2 (sameX G 8) (tlV R N r nv) (tlV R N r nv) = true := tl_same K.hR K.hN K.r (by decide) h
/-- from the looks on -/
theorem rest_wp {o3 o5 o6 o7 o8 o11 o12 o14 o17 o18 o19 : Option AV} {w : Int} {fs : List (Str × AV)} (hd : Dr b t s G) (ht : t + 10 < 2 ^ 60) (hv : G[nv]? = some (.ins "Vow" fs)) (bv : b ≤ nv) (K : Knw R N m r) (K' : Knw R' N' m r) (hu : Due b due (tlV R N r nv) G)
    (hn : G[n16]? = some (.lst (tlV R' N' r nv))) (bn : b ≤ n16) (hq : ∀ ρ' G', ShL z s nv m (cdV R' N' r nv) (.ref n16) ρ' → Dr b (t + 5) s G' → G'[nv]? = some (.ins "Vow" fs) → Due b (.ref n16) (tlV R' N' r nv) G' → D.nx ρ' G') :
    (k_law_19 [some z, some (.ref s), some (.ref nv), o3, some (.int (m : Nat)), o5, o6, o7, o8, some (cdV R N r nv), some due, o11, o12, some (.int w), o14, some (cdV R' N' r nv), some (.ref n16), o17, o18, o19] G).wp D := by
  have esz := szl_eq
  have m12 := K.m12
  have m1 := K.m1
  unfold k_law_19
  simp_arith []
  rw [isi_wp (v := cdV R' N' r nv) rfl (r := true) (by decide +kernel)]
  simp_arith []
  refine told_wp fun G1 k1 => ?_
  simp_arith []
  have d1 := hd.kp k1
  have hv1 := k1.get0 hv
  have hn1 := k1.get0 hn
  have hu1 := hu.kp (k1.mono (Nat.zero_le b))
  rw [neW_wp (xs := tlV R' N' r nv) (ys := tlV R' N' r nv) rfl (by simp only [lstOf, hn1]) (K'.same hv1)]
  simp_arith []
  refine told_wp fun G2 k2 => ?_
  simp_arith []
  have d2 := d1.kp k2
  have hv2 := k2.get0 hv1
  have hn2 := k2.get0 hn1
  have hu2 := hu1.kp (k2.mono (Nat.zero_le b))
  rw [neW_wp (xs := tlV R N r nv) (ys := tlV R N r nv) rfl hu2.l (K.same hv2)]
  simp_arith []
  unfold k_law_21
  simp_arith [take_eq]
  refine take_wp d2 (by decide) (by decide) (by omega) fun i3 G3 a3 b3 d3 k3 => ?_
  simp_arith [take_eq]
  refine take_wp d3 (by decide) (by decide) (by omega) fun i4 G4 a4 b4 d4 k4 => ?_
  simp_arith []
  refine pickI_wp d4 (by omega) (by simp) (by simp) fun bad G5 hbad d5 k5 => ?_
  obtain ⟨p, rfl, hp⟩ : ∃ p : Int, bad = .int p ∧ ¬ (0 ≤ p ∧ p < (R.length : Int)) := by
    have lR := K.lR
    simp only [List.mem_cons, List.not_mem_nil, or_false] at hbad
    rcases hbad with e | e | e <;> subst e
    · exact ⟨_, rfl, by omega⟩
    · exact ⟨_, rfl, by omega⟩
    · exact ⟨_, rfl, by omega⟩
  have kk := (k3.trans k4).trans k5
  have hv5 := kk.get bv hv2
  have hn5 := kk.get bn hn2
  simp_arith []
  unfold k_law_22
  simp_arith []
  refine fault_wp hp fun G6 k6 => ?_
  have d6 := d5.kp k6
  have hv6 := k6.get0 hv5
  have hn6 := k6.get0 hn5
  simp_arith []
  unfold k_law_23
  simp_arith []
  rw [isi_wp (v := .xv "NoRow" (mkX [("at", 1)] [.int p]).1 (mkX [("at", 1)] [.int p]).2) rfl (r := true) (by decide +kernel)]
  simp_arith []
  rw [isi_wp (v := .xv "NoRow" (mkX [("at", 1)] [.int p]).1 (mkX [("at", 1)] [.int p]).2) rfl (r := false) (by decide +kernel)]
  simp_arith []
  unfold k_law_25
  simp_arith [xf_at]
  exact hq _ _ ⟨_, _, _, _, _, _, _, _, _, _, _, _, _, _, rfl⟩ (d6.mono (by omega)) hv6 (.inr ⟨n16, rfl, bn, hn6⟩)
end
end L_k76
namespace L_k76
open PySem L2 Vz
section
variable {QV : AV → Hs → Prop} {QB : Bool → Hs → Prop} {E : XQ} {G G0 : Hs} {ρ : En} {D : SP} {R N R' N' : List AV} {v c x z due : AV} {b t s nv m n16 : Nat} {r : Int}
theorem ix_due0 {u : AV} {l : List AV} (h : Due b v (u :: l) G) : (fIx v (.int 0) G).wp QV E = QV u G := ix_due (k := 0) h rfl
theorem ix_due1 {u w : AV} {l : List AV} (h : Due b v (w :: u :: l) G) : (fIx v (.int 1) G).wp QV E = QV u G := ix_due (k := 1) h rfl
theorem fLs0 {m : Nat} {xs : List AV} {v : AV} {QU : Unit → Hs → Prop} (h : G[m]? = some (.lst xs)) (h1 : 0 < xs.length) : (fLs (.ref m) (.int 0) v G).wp QU E = QU () (G.set m (.lst (xs.set 0 v))) := fLs_L (k := 0) h h1
theorem fLs1 {m : Nat} {xs : List AV} {v : AV} {QU : Unit → Hs → Prop} (h : G[m]? = some (.lst xs)) (h1 : 1 < xs.length) : (fLs (.ref m) (.int 1) v G).wp QU E = QU () (G.set m (.lst (xs.set 1 v))) := fLs_L (k := 1) h h1
theorem turn_wp {o3 o5 o6 o7 o8 o11 o12 o13 o14 o15 o16 o17 o18 o19 : Option AV} {fs : List (Str × AV)} (hd : Dr b t s G) (ht : t + 100 < 2 ^ 60) (hv : G[nv]? = some (.ins "Vow" fs)) (bv : b ≤ nv) (K : Knw R N m r) (hu : Due b due (tlV R N r nv) G)
    (hq : ∀ R' N' due' ρ' G', Knw R' N' m r → ShL z s nv m (cdV R' N' r nv) due' ρ' → Dr b (t + 100) s G' → G'[nv]? = some (.ins "Vow" fs) → Due b due' (tlV R' N' r nv) G' → D.nx ρ' G') :
    (l_law_11 [some z, some (.ref s), some (.ref nv), o3, some (.int (m : Nat)), o5, o6, o7, o8, some (cdV R N r nv), some due, o11, o12, o13, o14, o15, o16, o17, o18, o19] G).wp D := by
  have esz := szl_eq
  have m12 := K.m12
  have m1 := K.m1
  unfold l_law_11
  simp_arith []
  refine told_wp fun G1 k1 => ?_
  simp_arith []
  have d1 := hd.kp k1
  have hv1 := k1.get0 hv
  have hu1 := hu.kp (k1.mono (Nat.zero_le b))
  rw [neW_wp (xs := tlV R N r nv) (ys := tlV R N r nv) rfl hu1.l (K.same hv1)]
  simp_arith []
  unfold k_law_14
  simp_arith [take_eq]
  refine take_wp d1 (by omega) (by omega) (by omega) fun a G2 a2 b2 d2 k2 => ?_
  simp_arith [take_eq]
  refine take_wp d2 (by decide) (by decide) (by omega) fun w G3 a3 b3 d3 k3 => ?_
  obtain ⟨a, rfl⟩ := Int.eq_ofNat_of_zero_le a2
  simp_arith []
  unfold k_law_15
  simp_arith []
  rcases (show w = 0 ∨ w = 1 by omega) with q | q <;> subst q
  · simp_arith []
    refine row_draw d3 (by omega) fun x G4 hx d4 k4 => ?_
    simp_arith []
    unfold k_law_16
    simp_arith []
    refine ⟨insQ, ?_⟩
    refine row_wp (by have := K.lR; omega) (by have := K.lR; omega) fun G5 k5 => ?_
    have kk : Kp b G1 G5 := ((k2.trans k3).trans k4).trans (k5.mono (Nat.zero_le b))
    have d5 := d4.kp k5
    have hv5 := kk.get bv hv1
    have hu5 := hu1.kp kk
    simp_arith []
    unfold k_law_17
    simp_arith []
    rw [list_due hu5]
    obtain ⟨n16, e16⟩ : ∃ n, n = G5.length := ⟨_, rfl⟩
    have g16 : (G5 ++ [AO.lst (tlV R N r nv)])[n16]? = some (.lst (tlV R N r nv)) := by rw [e16]; simp
    have d6 := d5.app (o := [AO.lst (tlV R N r nv)])
    have k6 := Kp.app b G5 [AO.lst (tlV R N r nv)]
    have hv6 := k6.get bv hv5
    have hu6 := hu5.kp k6
    have b16 : b ≤ n16 := by rw [e16]; exact d5.bl
    have n1 : nv ≠ n16 := by have := (List.getElem?_eq_some_iff.mp hv5).1; omega
    have hun : ∀ n, due = .ref n → n ≠ n16 := fun n en => by
      rcases hu5 with e | ⟨n', e, _, g⟩
      · rw [en] at e; cases e
      · rw [en] at e; cases e
        have := (List.getElem?_eq_some_iff.mp g).1
        omega
    rw [← e16]
    generalize G5 ++ [AO.lst (tlV R N r nv)] = G6 at g16 d6 hv6 hu6 ⊢
    simp_arith []
    unfold k_law_18
    simp_arith [wp_asgT, wp_gLs]
    rw [wp_fz]
    simp_arith []
    rw [ix_due0 hu6]
    simp_arith []
    rw [slT (cut_takeN (by have := K.lR; omega))]
    simp_arith []
    rw [addT (by simp; have := K.lR; have := K.lN; omega)]
    simp_arith []
    rw [wp_fz]
    simp_arith []
    rw [ix_due0 hu6]
    simp_arith []
    rw [show ((a : Nat) : Int) + 1 = ((a + 1 : Nat) : Int) by omega, slT (cut_fromN (by have := K.lR; omega))]
    simp_arith []
    rw [addT (by simp; have := K.lR; have := K.lN; omega), set_cut (by have := K.lR; omega)]
    simp_arith []
    rw [fLs0 g16 (by simp [tl])]
    have d7 := d6.setN (n := n16) (o := .lst (tlV (R.set a x) N r nv)) b16
    have hv7 : (G6.set n16 (.lst (tlV (R.set a x) N r nv)))[nv]? = some (.ins "Vow" fs) := (Pl.set_other n1).trans hv6
    have hu7 : Due b due (tlV R N r nv) (G6.set n16 (.lst (tlV (R.set a x) N r nv))) := by
      rcases hu6 with e | ⟨n, e, hb, g⟩
      · exact .inl e
      · exact .inr ⟨n, e, hb, (Pl.set_other (hun n e)).trans g⟩
    have g7 : (G6.set n16 (.lst (tlV (R.set a x) N r nv)))[n16]? = some (.lst (tlV (R.set a x) N r nv)) := Pl.set_self g16
    have K2 : Knw (R.set a x) N m r := ⟨set_rn K.hR hx, K.hN, by rw [List.length_set]; exact K.lR, K.lN, K.m12, K.m1, K.r⟩
    simp_arith []
    exact rest_wp d7 (by omega) hv7 bv K K2 hu7 g7 b16 fun ρ' G' e d' hv' hu' => hq _ _ _ _ _ K2 e (d'.mono (by omega)) hv' hu'
  · simp_arith []
    refine note_draw d3 (by omega) fun x G4 hx d4 k4 => ?_
    simp_arith []
    unfold k_law_16
    simp_arith []
    refine ⟨insQ, ?_⟩
    refine note_wp (by have := K.lR; omega) (by have := K.lN; have := K.lR; omega) (by have := K.lR; omega) fun G5 k5 => ?_
    have kk : Kp b G1 G5 := ((k2.trans k3).trans k4).trans (k5.mono (Nat.zero_le b))
    have d5 := d4.kp k5
    have hv5 := kk.get bv hv1
    have hu5 := hu1.kp kk
    simp_arith []
    unfold k_law_17
    simp_arith []
    rw [list_due hu5]
    obtain ⟨n16, e16⟩ : ∃ n, n = G5.length := ⟨_, rfl⟩
    have g16 : (G5 ++ [AO.lst (tlV R N r nv)])[n16]? = some (.lst (tlV R N r nv)) := by rw [e16]; simp
    have d6 := d5.app (o := [AO.lst (tlV R N r nv)])
    have k6 := Kp.app b G5 [AO.lst (tlV R N r nv)]
    have hv6 := k6.get bv hv5
    have hu6 := hu5.kp k6
    have b16 : b ≤ n16 := by rw [e16]; exact d5.bl
    have n1 : nv ≠ n16 := by have := (List.getElem?_eq_some_iff.mp hv5).1; omega
    have hun : ∀ n, due = .ref n → n ≠ n16 := fun n en => by
      rcases hu5 with e | ⟨n', e, _, g⟩
      · rw [en] at e; cases e
      · rw [en] at e; cases e
        have := (List.getElem?_eq_some_iff.mp g).1
        omega
    rw [← e16]
    generalize G5 ++ [AO.lst (tlV R N r nv)] = G6 at g16 d6 hv6 hu6 ⊢
    simp_arith []
    unfold k_law_18
    simp_arith [wp_asgT, wp_gLs]
    rw [wp_fz]
    simp_arith []
    rw [ix_due1 hu6]
    simp_arith []
    rw [slT (cut_takeN (by have := K.lN; omega))]
    simp_arith []
    rw [addT (by simp; have := K.lR; have := K.lN; omega)]
    simp_arith []
    rw [wp_fz]
    simp_arith []
    rw [ix_due1 hu6]
    simp_arith []
    rw [show ((a : Nat) : Int) + 1 = ((a + 1 : Nat) : Int) by omega, slT (cut_fromN (by have := K.lN; omega))]
    simp_arith []
    rw [addT (by simp; have := K.lR; have := K.lN; omega), set_cut (by have := K.lN; omega)]
    simp_arith []
    rw [fLs1 g16 (by simp [tl])]
    have d7 := d6.setN (n := n16) (o := .lst (tlV R (N.set a x) r nv)) b16
    have hv7 : (G6.set n16 (.lst (tlV R (N.set a x) r nv)))[nv]? = some (.ins "Vow" fs) := (Pl.set_other n1).trans hv6
    have hu7 : Due b due (tlV R N r nv) (G6.set n16 (.lst (tlV R (N.set a x) r nv))) := by
      rcases hu6 with e | ⟨n, e, hb, g⟩
      · exact .inl e
      · exact .inr ⟨n, e, hb, (Pl.set_other (hun n e)).trans g⟩
    have g7 : (G6.set n16 (.lst (tlV R (N.set a x) r nv)))[n16]? = some (.lst (tlV R (N.set a x) r nv)) := Pl.set_self g16
    have K2 : Knw R (N.set a x) m r := ⟨K.hR, set_rn K.hN hx, K.lR, by rw [List.length_set]; exact K.lN, K.m12, K.m1, K.r⟩
    simp_arith []
    exact rest_wp d7 (by omega) hv7 bv K K2 hu7 g7 b16 fun ρ' G' e d' hv' hu' => hq _ _ _ _ _ K2 e (d'.mono (by omega)) hv' hu'
end
end L_k76
namespace L_k76
open PySem L2 Vz
theorem law_pure : ∀ ns : List Int, ns.length ≤ 63 → ∃ G, f_law [scriptAV ns] [] = .ok (.bl true) G := fun ns hn => by
  have esz := szl_eq
  have main : (f_law [scriptAV ns] []).wp (fun v _ => v = .bl true) noX := by
    unfold f_law b_law
    simp_arith [begun_eq]
    refine begun_wp (by decide) (by decide) hn fun s G1 h1 k1 => ?_
    simp_arith []
    generalize hb : G1.length = b at h1
    unfold k_law_2
    simp_arith []
    refine vparts_wp h1 (by omega) fun p G2 hp d2 k2 => ?_
    simp_arith []
    refine vow_wp hp fun G3 fs k3 g3 => ?_
    obtain ⟨nv, env⟩ : ∃ n, n = G2.length := ⟨_, rfl⟩
    rw [← env] at g3 ⊢
    have bv : b ≤ nv := by rw [env]; exact d2.bl
    have d3 := d2.kp k3
    simp_arith []
    unfold k_law_3
    simp_arith []
    rw [wp_fz]
    simp_arith [gP, List.filterMap_cons, List.filterMap_nil]
    rw [wp_fz]
    simp_arith [gP, List.filterMap_cons, List.filterMap_nil]
    refine mk_fn (f := fnQ) fun G4 k4 => ?_
    simp_arith [gP, List.filterMap_cons, List.filterMap_nil]
    refine mk_bk (fs := [fnQ]) bookQ fun G5 k5 => ?_
    have d5 := (d3.kp k4).kp k5
    have g5 := k5.get0 (k4.get0 g3)
    simp_arith []
    unfold k_law_4
    simp_arith [take_eq]
    refine take_wp d5 (by decide) (by decide) (by omega) fun r0 G6 a6 b6 d6 k6 => ?_
    obtain ⟨m, hm⟩ : ∃ m : Nat, 3 + r0 = (m : Nat) := ⟨(3 + r0).toNat, by omega⟩
    have g6 := k6.get bv g5
    simp_arith []
    rw [hm]
    have m1 : 1 ≤ m := by omega
    have m12 : m ≤ 12 := by omega
    unfold k_law_5
    simp_arith []
    refine wp_lcD (rg1_ok rfl (by omega) (by omega)) (Kp.refl _ _) d6 12 (fun _ r => Rn r) (by rw [rglen]; omega) (fun j v G7 hv d7 k7 => ⟨_, rfl, ?_⟩) fun R G7 lR hTR d7 k7 => ?_
    · obtain ⟨rfl, hj⟩ := rgA_get hv
      simp_arith []
      refine row_draw d7 (by omega) fun v G8 hv d8 k8 => ?_
      exact ⟨hv, d8.mono (by omega), k8⟩
    have hR := all_of (T := Rn) (vs := rgA 0 ((m : Nat) : Int)) lR fun j v r hv hr => hTR j v r hv hr
    rw [rglen] at lR d7
    simp_arith []
    refine wp_lcD (rg1_ok rfl (by omega) (by omega)) (Kp.refl _ _) d7 40 (fun _ r => Rn r) (by rw [rglen]; omega) (fun j v G8 hv d8 k8 => ⟨_, rfl, ?_⟩) fun N G8 lN hTN d8 k8 => ?_
    · obtain ⟨rfl, hj⟩ := rgA_get hv
      simp_arith []
      refine note_draw d8 (by omega) fun v G9 hv d9 k9 => ?_
      exact ⟨hv, d9.mono (by omega), k9⟩
    have hN := all_of (T := Rn) (vs := rgA 0 ((m : Nat) : Int)) lN fun j v r hv hr => hTN j v r hv hr
    rw [rglen] at lN d8
    have d8 : Dr b 1000 s G8 := d8.mono (by omega)
    have g8 := k8.get bv (k7.get bv g6)
    clear hTR hTN
    simp_arith []
    unfold k_law_6
    simp_arith []
    refine dict1_wp ?_
    obtain ⟨n7, e7⟩ : ∃ n, n = G8.length := ⟨_, rfl⟩
    rw [← e7]
    simp_arith [take_eq]
    refine take_wp d8.app (by omega) (by omega) (by omega) fun r G9 a9 b9 d9 k9 => ?_
    have b7 : b ≤ n7 := by rw [e7]; exact d8.bl
    have q7 : G9[n7]? = some (.dk []) := k9.get b7 (by rw [e7]; simp)
    refine ⟨q7, ?_⟩
    have i7 : nv < n7 := by rw [e7]; exact (List.getElem?_eq_some_iff.mp g8).1
    have g9 : (G9.set n7 (.dk [(.inr "fa", .int r)]))[nv]? = some (.ins "Vow" fs) := (Pl.set_other (by omega)).trans (k9.get bv ((Kp.app b G8 [AO.dk []]).get bv g8))
    have d10 := d9.setN (n := n7) (o := .dk [(.inr "fa", .int r)]) b7
    have h7 : (G9.set n7 (.dk [(.inr "fa", .int r)]))[n7]? = some (.dk [(.inr "fa", .int r)]) := Pl.set_self q7
    generalize G9.set n7 (.dk [(.inr "fa", .int r)]) = G10 at g9 d10 h7 ⊢
    simp_arith []
    refine dict1_wp ?_
    obtain ⟨n8, e8⟩ : ∃ n, n = G10.length := ⟨_, rfl⟩
    rw [← e8]
    have i8 : n7 < n8 := by rw [e8]; exact (List.getElem?_eq_some_iff.mp h7).1
    simp_arith []
    refine ⟨by rw [e8]; simp, ?_⟩
    have k11 := Kp.app b G10 [AO.dk []]
    have g11 : ((G10 ++ [AO.dk []]).set n8 (.dk [(.inr "fa", .ref nv)]))[nv]? = some (.ins "Vow" fs) := (Pl.set_other (by omega)).trans (k11.get bv g9)
    have h7' : ((G10 ++ [AO.dk []]).set n8 (.dk [(.inr "fa", .ref nv)]))[n7]? = some (.dk [(.inr "fa", .int r)]) := (Pl.set_other (by omega)).trans (k11.get b7 h7)
    have h8' : ((G10 ++ [AO.dk []]).set n8 (.dk [(.inr "fa", .ref nv)]))[n8]? = some (.dk [(.inr "fa", .ref nv)]) := Pl.set_self (o := .dk []) (by rw [e8]; simp)
    have d11 := d10.app (o := [AO.dk []]) |>.setN (n := n8) (o := .dk [(.inr "fa", .ref nv)]) (by omega)
    generalize (G10 ++ [AO.dk []]).set n8 (.dk [(.inr "fa", .ref nv)]) = G11 at g11 h7' h8' d11 ⊢
    simp_arith []
    unfold k_law_7
    simp_arith []
    rw [wp_fz]
    simp_arith [gP, List.filterMap_cons, List.filterMap_nil]
    rw [wp_fz]
    have dz : ∀ (G : Hs) (ρ : En) (QV : AV → Hs → Prop) (E : XQ), (∀ G', Kp 0 G G' → QV (.id qk [.int 2]) G') → (mDict [((mC (.str "fa")), (mC (.int 2)))] ρ G).wp (fzQ QV) E := fun G ρ QV E h => by
      refine dict1_wp ?_
      simp_arith []
      refine ⟨by simp, ?_⟩
      rw [fzQ_ref (o := .dk [(.inr "fa", .int 2)]) (Pl.set_self (o := .dk []) (by simp)) rfl]
      exact h _ (((Kp.app 0 G _).setN (Nat.le_refl _)).setN (Nat.le_refl _))
    refine dz _ _ _ _ fun G12 k12 => ?_
    have g12 := k12.get0 g11
    have h7 := k12.get0 h7'
    have h8 := k12.get0 h8'
    have d12 := d11.kp k12
    simp_arith [gP, List.filterMap_cons, List.filterMap_nil]
    refine mk_code (das_ref rfl h7) (das_id rfl) (das_ref rfl h8) fun G13 k13 => ?_
    have g13 := k13.get0 g12
    have h7 := k13.get0 h7
    have h8 := k13.get0 h8
    have d13 := d12.kp k13
    simp_arith []
    unfold k_law_8
    simp_arith []
    rw [wp_fz]
    simp_arith []
    refine dict_fz (ks := qk) (xs := [.int r]) (das_ref rfl h7) fun G14 k14 => ?_
    simp_arith []
    rw [wp_fz]
    refine dz _ _ _ _ fun G15 k15 => ?_
    simp_arith []
    rw [wp_fz]
    simp_arith []
    have k45 := k14.trans k15
    refine dict_fz (ks := qk) (xs := [.ref nv]) (das_ref rfl (k45.get0 h8)) fun G16 k16 => ?_
    have kk := k45.trans k16
    have g16 := kk.get0 g13
    have h7 := kk.get0 h7
    have h8 := kk.get0 h8
    have d16 := d13.kp kk
    simp_arith []
    unfold k_law_9
    simp_arith [isD_D h7]
    rw [dclear_wp h7]
    have d17 := d16.setN (n := n7) (o := .dk []) b7
    have g17 : (G16.set n7 (.dk []))[nv]? = some (.ins "Vow" fs) := (Pl.set_other (by omega)).trans g16
    have h8 : (G16.set n7 (.dk []))[n8]? = some (.dk [(.inr "fa", .ref nv)]) := (Pl.set_other (by omega)).trans h8
    generalize G16.set n7 (.dk []) = G17 at d17 g17 h8 ⊢
    unfold k_law_10
    simp_arith [isD_D h8]
    rw [dclear_wp h8]
    have d18 := d17.setN (n := n8) (o := .dk []) (by omega)
    have g18 : (G17.set n8 (.dk []))[nv]? = some (.ins "Vow" fs) := (Pl.set_other (by omega)).trans g17
    generalize G17.set n8 (.dk []) = G18 at d18 g18 ⊢
    unfold k_law_11
    rw [wp_seq]
    refine wp_forRg (hi := 8) (rg1_ok rfl (by decide) (by decide)) (fun j ρ G' => ∃ R N due, Knw R N m r ∧ ShL (scriptAV ns) s nv m (cdV R N r nv) due ρ ∧ Dr b (2000 + 100 * j) s G' ∧ G'[nv]? = some (.ins "Vow" fs) ∧ Due b due (tlV R N r nv) G')
      ⟨R, N, _, ⟨hR, hN, lR, lN, m12, m1, by omega⟩, ⟨_, _, _, _, _, _, _, _, _, _, _, _, _, _, rfl⟩, d18.mono (by omega), g18, .inl rfl⟩ (fun j ρ G' hj ⟨R, N, due, K, ⟨o3, o5, o6, o7, o8, o11, o12, o13, o14, o15, o16, o17, o18, o19, hρ⟩, hd, hv, hu⟩ => ?_) fun ρ G' _ => ?_
    · subst hρ
      simp only [List.set_cons_succ, List.set_cons_zero]
      refine turn_wp hd (by omega) hv bv K hu fun R' N' due' ρ' G'' K' e d' hv' hu' => ?_
      exact ⟨R', N', due', K', e, d'.mono (by omega), hv', hu'⟩
    · simp_arith []
  obtain ⟨v, G, e, q⟩ := main.ex
  subst q
  exact ⟨G, e⟩
end L_k76
namespace L_k76
open PySem L2 Vz
theorem tells {w : World} {mg : Str → Option Value} {a : Addr} {hp : Heap} (Y : hk.says w hp) (G : hp.Ns mainGlobals mg) (ha : mg "law" = some (.ref a)) (pure_ : ∀ ns : List Int, ns.length ≤ 63 → ∃ G, f_law [scriptAV ns] [] = .ok (.bl true) G) :
    ∃ (K : PySem.W.Frag) (fd : FuncData) (b : List AV → Hs → R AV), K.In hp ∧ (∀ (s : Shared) (u : Value), BindsTo s fd ⟨[u], []⟩ [("_law_script", u)]) ∧
      (∀ ns : List Int, ns.length ≤ 63 → ∃ G, b [scriptAV ns] [] = .ok (.bl true) G) ∧ ∀ base : Heap, K.In base → base.Ns mainGlobals mg → FnG PySem.Challenge.pw_callvows_k76_codes_exchanged w K mg base (CX PySem.Challenge.pw_callvows_k76_codes_exchanged w) 28 a fd ["_law_script"] (fsp K 1 b) := by
  obtain ⟨K, KX, t⟩ := Y
  have T : Ts K mg := .of t ⟨hp, KX, G⟩
  have e := ha.symm.trans T.m_law
  cases e
  obtain ⟨fd, F⟩ := T.d_law
  have F : FunD K "law" "law" (defArgs s_law) (defBody s_law) (defScope s_law) [] [] (ga K "law") fd := F
  have b := FunD.bindsA (ps := ["_law_script"]) F fun _ _ _ _ _ _ us hl => match us, hl with | [_], _ => rfl
  exact ⟨K, fd, f_law, KX, fun s u => b s [u] rfl, pure_, fun base _ _ => ok_law T F⟩
end L_k76
open PySem PySem.W PySem.Calls PyProof.Rows in
theorem PySem.Challenge.cw_callvows_k76_codes_exchanged_holds : PySem.Challenge.rw_callvows_k76_codes_exchanged.Holds := by
  w_on; o_law
  refine HandSHeadRun.head_any (r := OpenLaw.row PySem.Challenge.rw_callvows_k76_codes_exchanged) (q := view (OpenLaw.row PySem.Challenge.rw_callvows_k76_codes_exchanged).prog [49]) (H := L_k76.hk) (ob := L_k76.ob) (M := 5500) (loose := L_k76.loose) (d := HandSHeadRun.topDef (OpenLaw.row PySem.Challenge.rw_callvows_k76_codes_exchanged).prog 49) (kwd := []) L_k76.ob_eq
    (by kernel_rfl) (fun s => by kernel_rfl) L_k76.run (by kernel_rfl) (by kernel_rfl) (by kernel_rfl) (by rfl) (by first | assumption | decide +kernel) (by decide +kernel) ⟨rfl, rfl, rfl, rfl, rfl, by decide +kernel⟩ ?hw ?hc
  case hw => w_witness2
  case hc =>
    refine Vz.walkX (l := PySem.Challenge.rw_callvows_k76_codes_exchanged) (n := 63) (k := 28) (x := "_law_script") rfl (by decide) (by kernel_rfl) ⟨⟨rfl, by decide, by decide⟩, rfl⟩ ?F
    intro w mg a hp Y G hmg0
    have hmg : mg ("law" : PySem.Str) = some (.ref a) := by
      have e : (HandSHeadRun.topDef (OpenLaw.row PySem.Challenge.rw_callvows_k76_codes_exchanged).prog 49).name = ("law" : PySem.Str) := by kernel_rfl
      rw [← e]
      exact hmg0
    exact L_k76.tells Y G hmg L_k76.law_pure
