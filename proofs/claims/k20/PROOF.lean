import PyProof.Rows.All
import HandS.ForMost
import KE.DataEq
import KE.DataCmp
import KE.SortData
import HandS.Wide
import HandS.TupAny
import HandS.IsInst
import HandS.Codes
import HandS.Gcd
import HandS.Defaults
import HandS.Strs
import HandS.More
import HandS.Text
import HandS.ForExc
import HandS.TryMany
import HandS.TryOnly
import HandS.ExcIs
import HandS.Iter
import HandS.Conv
import HandS.Flow
import HandS.Zip
import HandS.DictComp
import HandS.SetKeys
import PyProof.DictMoreH
import KE.GoesMore
import KE.GoesEnum
import HandS.Small
import KE.KDictList
import PySem.Challenge.RW_stillanswered_k20_cells_and_what_is_left
set_option Elab.async false
set_option linter.all false
set_option maxRecDepth 100000
/-! DL1: Python's values as plain trees; the state of a frame over them; the lifting of weakest preconditions over trees to the readings of the hand layer. -/
namespace DL
open PySem PySem.Spec PyProof.Rows L2

/-- the object of a drawing machine: a list of a list of ints (at c) and three ints -/
def Dlr (a c : Addr) : Heap → Prop := fun h => ∃ (p g m : Int) (t1 t2 t3 : Tok) (n : Nat), 0 ≤ p ∧ 0 ≤ g ∧ 0 ≤ m ∧ m < 2305843009213693951 ∧
  h.get? a = some { cls := .type "list", data := .seq (([.ref c, .int p t1, .int g t2, .int m t3] : List Value).toArray) n }

/-- the keys and values of a drawing machine that is a dict -/
def deckKvs (c : Addr) (p g x : Int) : List (Key × V) := [(.inr "cells", .ref c), (.inr "at", .int p), (.inr "rest", .int g), (.inr "seed", .int x)]
/-- .. its object -/
def Dkr (w : World) (a c : Addr) : Heap → Prop := fun h => ∃ (P : Program) (p g x : Int), (0 ≤ p ∧ 0 ≤ g ∧ 0 ≤ x ∧ x < 2147483647) ∧ (a == sysModules) = false ∧ ∃ vs, KV (deckKvs c p g x) vs ∧ h.DictOf (mixKind P w) a vs

inductive D where
  | non | bl (b : Bool) | int (i : Int) | str (x : Str) | ty (n : String) | ref (a : Addr)
  | tup (ds : List D) | lst (ds : List D) | dic (ks : List Key) (ds : List D) | dit (ks : List (List Key)) (ds : List D) | dlr | tpl (ds : List D) | mch (w : World)

mutual
/-- v is the tree d, over the objects G that never change -/
def DV (K : PySem.W.Frag) (G : Hp) : D → V → Prop
  | .non, v => v = .non
  | .bl b, v => v = .bl b
  | .int i, v => v = .int i
  | .str x, v => v = .str x
  | .ty n, v => v = .ty n
  | .ref a, v => v = .ref a
  | .tup ds, v => ∃ a xs, v = .ref a ∧ G a = some (.tup xs) ∧ DVs K G ds xs
  | .tpl ds, v => ∃ a xs, v = .ref a ∧ SqT K G a xs ∧ DVs K G ds xs
  | .lst ds, v => ∃ a xs, v = .ref a ∧ SqL K G a xs ∧ DVs K G ds xs
  | .dic ks ds, v => ∃ a xs, v = .ref a ∧ Rd G a (.dK (ks.zip xs)) ∧ ks.length = xs.length ∧ DVs K G ds xs
  | .dit ks ds, v => ∃ a xs, v = .ref a ∧ Rd G a (.dT (ks.zip xs)) ∧ ks.length = xs.length ∧ DVs K G ds xs
  | .dlr, v => ∃ a c, ∃ ns : List Int, v = .ref a ∧ G a = some (.ext (Dlr a c)) ∧ SqL K G c (ns.map V.int) ∧ ns.length ≤ 63
  | .mch w, v => ∃ a c, ∃ ns : List Int, v = .ref a ∧ G a = some (.ext (Dkr w a c)) ∧ SqL K G c (ns.map V.int) ∧ ns.length ≤ 63
def DVs (K : PySem.W.Frag) (G : Hp) : List D → List V → Prop
  | [], xs => xs = []
  | d :: ds, xs => ∃ x r, xs = x :: r ∧ DV K G d x ∧ DVs K G ds r
end

theorem same_t {K : PySem.W.Frag} {H H' : Hp} {a : Addr} {xs : List V} (e : Same H H') (h : SqT K H a xs) : SqT K H' a xs := by
  rcases h with (h | ⟨o, h⟩) | h
  · exact .inl (.inl (e _ _ h))
  · exact .inl (.inr ⟨o, e _ _ h⟩)
  · exact .inr h

theorem same_rd {H H' : Hp} {a : Addr} {u : HO} (e : Same H H') (h : Rd H a u) : Rd H' a u := by
  rcases h with h | ⟨o, h⟩
  · exact .inl (e _ _ h)
  · exact .inr ⟨o, e _ _ h⟩

mutual
theorem DV.mono {K : PySem.W.Frag} {G G' : Hp} (e : Same G G') : ∀ {d : D} {v : V}, DV K G d v → DV K G' d v
  | .non, _, h => h
  | .bl _, _, h => h
  | .int _, _, h => h
  | .str _, _, h => h
  | .ty _, _, h => h
  | .ref _, _, h => h
  | .tup _, _, ⟨a, xs, h1, h2, h3⟩ => ⟨a, xs, h1, e _ _ h2, DVs.mono e h3⟩
  | .tpl _, _, ⟨a, xs, h1, h2, h3⟩ => ⟨a, xs, h1, same_t e h2, DVs.mono e h3⟩
  | .lst _, _, ⟨a, xs, h1, h2, h3⟩ => ⟨a, xs, h1, e.seq h2, DVs.mono e h3⟩
  | .dic _ _, _, ⟨a, xs, h1, h2, h3, h4⟩ => ⟨a, xs, h1, same_rd e h2, h3, DVs.mono e h4⟩
  | .dit _ _, _, ⟨a, xs, h1, h2, h3, h4⟩ => ⟨a, xs, h1, same_rd e h2, h3, DVs.mono e h4⟩
  | .dlr, _, ⟨a, c, ns, h1, h2, h3, h4⟩ => ⟨a, c, ns, h1, e _ _ h2, e.seq h3, h4⟩
  | .mch _, _, ⟨a, c, ns, h1, h2, h3, h4⟩ => ⟨a, c, ns, h1, e _ _ h2, e.seq h3, h4⟩
theorem DVs.mono {K : PySem.W.Frag} {G G' : Hp} (e : Same G G') : ∀ {ds : List D} {vs : List V}, DVs K G ds vs → DVs K G' ds vs
  | [], _, h => h
  | _ :: _, _, ⟨x, r, h1, h2, h3⟩ => ⟨x, r, h1, DV.mono e h2, DVs.mono e h3⟩
end
section
variable {K : PySem.W.Frag} {G : Hp}
theorem DVs.len : ∀ {ds : List D} {vs : List V}, DVs K G ds vs → ds.length = vs.length
  | [], _, h => by have h : _ = [] := h; subst h; rfl
  | _ :: _, _, ⟨x, r, h1, h2, h3⟩ => by subst h1; simp [DVs.len h3]
theorem DVs.app : ∀ {ds es : List D} {vs us : List V}, DVs K G ds vs → DVs K G es us → DVs K G (ds ++ es) (vs ++ us)
  | [], _, _, _, h, h' => by have h : _ = [] := h; subst h; exact h'
  | _ :: _, _, _, _, ⟨x, r, h1, h2, h3⟩, h' => by subst h1; exact ⟨x, r ++ _, rfl, h2, DVs.app h3 h'⟩
theorem DVs.one {d : D} {v : V} (h : DV K G d v) : DVs K G [d] [v] := ⟨v, [], rfl, h, rfl⟩
theorem DVs.get : ∀ {ds : List D} {vs : List V} {i : Nat} {d : D}, DVs K G ds vs → ds[i]? = some d → ∃ v, vs[i]? = some v ∧ DV K G d v
  | [], _, _, _, _, h => by simp at h
  | _ :: _, _, 0, _, ⟨x, r, h1, h2, h3⟩, h => by
    subst h1
    have e := Option.some.inj h
    subst e
    exact ⟨x, rfl, h2⟩
  | _ :: _, _, i + 1, _, ⟨x, r, h1, h2, h3⟩, h => by
    subst h1
    exact DVs.get (i := i) h3 (by simpa using h)
theorem DVs.get' : ∀ {ds : List D} {vs : List V} {i : Nat} {v : V}, DVs K G ds vs → vs[i]? = some v → ∃ d, ds[i]? = some d ∧ DV K G d v
  | [], _, _, _, h, h' => by have h : _ = [] := h; subst h; simp at h'
  | _ :: _, _, 0, _, ⟨x, r, h1, h2, h3⟩, h => by
    subst h1
    have e := Option.some.inj h
    subst e
    exact ⟨_, rfl, h2⟩
  | _ :: _, _, i + 1, _, ⟨x, r, h1, h2, h3⟩, h => by
    subst h1
    exact DVs.get' (i := i) h3 (by simpa using h)
theorem DVs.drop : ∀ {ds : List D} {vs : List V} (n : Nat), DVs K G ds vs → DVs K G (ds.drop n) (vs.drop n)
  | _, _, 0, h => h
  | [], _, n + 1, h => by have h : _ = [] := h; subst h; exact rfl
  | _ :: _, _, n + 1, ⟨x, r, h1, h2, h3⟩ => by subst h1; exact DVs.drop n h3
theorem DVs.take : ∀ {ds : List D} {vs : List V} (n : Nat), DVs K G ds vs → DVs K G (ds.take n) (vs.take n)
  | _, _, 0, h => rfl
  | [], _, n + 1, h => by have h : _ = [] := h; subst h; exact rfl
  | _ :: _, _, n + 1, ⟨x, r, h1, h2, h3⟩ => by subst h1; exact ⟨x, _, rfl, h2, DVs.take n h3⟩
theorem DVs.set : ∀ {ds : List D} {vs : List V} {d : D} {v : V} (n : Nat), DVs K G ds vs → DV K G d v → DVs K G (ds.set n d) (vs.set n v)
  | [], _, _, _, _, h, _ => by have h : _ = [] := h; subst h; exact rfl
  | _ :: _, _, _, _, 0, ⟨x, r, h1, h2, h3⟩, h => by subst h1; exact ⟨_, _, rfl, h, h3⟩
  | _ :: _, _, _, _, n + 1, ⟨x, r, h1, h2, h3⟩, h => by subst h1; exact ⟨_, _, rfl, h2, DVs.set n h3 h⟩
theorem DVs.rev : ∀ {ds : List D} {vs : List V}, DVs K G ds vs → DVs K G ds.reverse vs.reverse
  | [], _, h => by have h : _ = [] := h; subst h; exact rfl
  | _ :: _, _, ⟨x, r, h1, h2, h3⟩ => by
    subst h1
    rw [List.reverse_cons, List.reverse_cons]
    exact DVs.app (DVs.rev h3) (DVs.one h2)
theorem DVs.ints : ∀ {ns : List Int} {vs : List V}, DVs K G (ns.map D.int) vs → vs = ns.map V.int
  | [], _, h => h
  | n :: ns, _, ⟨x, r, h1, h2, h3⟩ => by
    have h2 : x = .int n := h2
    have := DVs.ints h3
    rw [h1, h2, this]
    rfl
theorem DVs.ofInts : ∀ {ns : List Int}, DVs K G (ns.map D.int) (ns.map V.int)
  | [] => rfl
  | n :: ns => ⟨.int n, _, rfl, rfl, DVs.ofInts⟩
theorem DVs.strs : ∀ {ns : List Str} {vs : List V}, DVs K G (ns.map D.str) vs → vs = ns.map V.str
  | [], _, h => h
  | n :: ns, _, ⟨x, r, h1, h2, h3⟩ => by
    have h2 : x = .str n := h2
    have := DVs.strs h3
    rw [h1, h2, this]
    rfl
theorem DVs.ofStrs : ∀ {ns : List Str}, DVs K G (ns.map D.str) (ns.map V.str)
  | [] => rfl
  | n :: ns => ⟨.str n, _, rfl, rfl, DVs.ofStrs⟩
end

/-- what a frame's slot holds: nothing known, a tree, a list or dict of the frame's own; b i (of an expression's value): the list or dict that slot i owns -/
inductive Sl where
  | no | d (d : D) | l (ds : List D) | k (ks : List Key) (ds : List D) | t (ks : List (List Key)) (ds : List D) | b (i : Nat)
def Sl.own : Sl → Bool
  | .l _ => true
  | .k _ _ => true
  | .t _ _ => true
  | _ => false
/-- a mutable object that is known by its address -/
inductive Ob where
  | ins (C dx : Addr) (fs : List Str) (ds : List D) | sl (x : Sl)
abbrev Mu := Addr → Option Ob
structure S where
  ρ : List Sl
  μ : Mu
def get : List Sl → Nat → Sl
  | [], _ => .no
  | x :: _, 0 => x
  | _ :: r, n + 1 => get r n
def put : List Sl → Nat → Sl → List Sl
  | [], _, _ => []
  | _ :: r, 0, y => y :: r
  | x :: r, n + 1, y => x :: put r n y
def S.set (s : S) (i : Nat) (x : Sl) : S := ⟨put s.ρ i x, s.μ⟩
theorem put_len : ∀ (l : List Sl) (i : Nat) (x : Sl), (put l i x).length = l.length
  | [], _, _ => rfl
  | _ :: _, 0, _ => rfl
  | _ :: r, n + 1, y => by show (put r n y).length + 1 = r.length + 1; rw [put_len r n y]
theorem get_put : ∀ (l : List Sl) (i j : Nat) (x : Sl), get (put l i x) j = if j = i ∧ i < l.length then x else get l j
  | [], i, j, x => by simp [put, get]
  | y :: r, 0, 0, x => by simp [put, get]
  | y :: r, 0, j + 1, x => by simp [put, get]
  | y :: r, n + 1, 0, x => by simp [put, get]
  | y :: r, n + 1, j + 1, x => by
    show get (put r n x) j = if j + 1 = n + 1 ∧ n + 1 < r.length + 1 then x else get r j
    rw [get_put r n j x]
    simp
theorem get_ge : ∀ (l : List Sl) (i : Nat), l.length ≤ i → get l i = .no
  | [], _, _ => rfl
  | _ :: r, 0, h => by simp at h
  | _ :: r, n + 1, h => get_ge r n (by simpa using h)

/-- the own list or dict at a -/
def Hd (K : PySem.W.Frag) (G H : Hp) (a : Addr) : Sl → Prop
  | .l ds => ∃ xs, H a = some (.lst xs) ∧ DVs K G ds xs
  | .k ks ds => ∃ xs, H a = some (.dK (ks.zip xs)) ∧ ks.length = xs.length ∧ DVs K G ds xs
  | .t ks ds => ∃ xs, H a = some (.dT (ks.zip xs)) ∧ ks.length = xs.length ∧ DVs K G ds xs
  | _ => False
def ObOk (K : PySem.W.Frag) (G H : Hp) (a : Addr) : Ob → Prop
  | .ins C dx fs ds => ∃ xs, H a = some (.ins C dx (fs.zip xs)) ∧ fs.length = xs.length ∧ DVs K G ds xs
  | .sl x => Hd K G H a x
/-- a frozen list or dict as a tree -/
def frzD : Sl → D
  | .d d => d
  | .l ds => .lst ds
  | .k ks ds => .dic ks ds
  | .t ks ds => .dit ks ds
  | _ => .non
def SlOk (K : PySem.W.Frag) (G U H : Hp) (μ : Mu) (o : Option V) : Sl → Prop
  | .no => True
  | .d d => ∃ v, o = some v ∧ DV K G d v
  | .b _ => False
  | x => ∃ a, o = some (.ref a) ∧ G a = none ∧ U a = none ∧ μ a = none ∧ Hd K G H a x
/-- objects that never change (G), objects of others (U), known mutable ones (μ), all in H -/
structure Base (K : PySem.W.Frag) (G U H : Hp) (μ : Mu) : Prop where
  sub : Same G H
  usub : Same U H
  ug : ∀ a o, U a = some o → G a = none ∧ μ a = none
  mu : ∀ a o, μ a = some o → G a = none ∧ ObOk K G H a o
  bx : ∀ a xs, U a ≠ some (.tup xs)
def OwnAt (σ : L2.St) (ρ : List Sl) (i : Nat) (a : Addr) : Prop := (get ρ i).own = true ∧ σ[i]? = some (some (.ref a))
structure St (K : PySem.W.Frag) (G U H : Hp) (σ : L2.St) (s : S) : Prop where
  base : Base K G U H s.μ
  len : s.ρ.length = σ.length
  slot : ∀ i, SlOk K G U H s.μ (σ[i]?.join) (get s.ρ i)
  dis : ∀ i j a, i ≠ j → OwnAt σ s.ρ i a → OwnAt σ s.ρ j a → False
/-- an expression's value -/
def RsOk (K : PySem.W.Frag) (G U H : Hp) (σ : L2.St) (s : S) (v : V) : Sl → Prop
  | .d d => DV K G d v
  | .no => False
  | .b i => (get s.ρ i).own = true ∧ σ[i]? = some (some v)
  | x => ∃ p, v = .ref p ∧ G p = none ∧ U p = none ∧ s.μ p = none ∧ Hd K G H p x ∧ ∀ i, ¬ OwnAt σ s.ρ i p
/-- a call's or an operator's value -/
def Res (K : PySem.W.Frag) (G U H : Hp) (μ : Mu) (v : V) : Sl → Prop
  | .d d => DV K G d v
  | .no => False
  | .b _ => False
  | x => ∃ p, v = .ref p ∧ G p = none ∧ U p = none ∧ μ p = none ∧ Hd K G H p x

abbrev PhiE := S → (Sl → S → Prop) → Prop
abbrev PhiT := S → (Bool → S → Prop) → Prop
abbrev PhiA := S → (List D → S → Prop) → Prop
structure DE where
  nx : S → Prop
  rt : Sl → Mu → Prop
  bk : S → Prop := fun _ => False
  ct : S → Prop := fun _ => False
abbrev PhiS := DE → S → Prop

def liftE (K : PySem.W.Frag) (φ : PhiE) : TE := fun σ H Q => ∃ G U s R, St K G U H σ s ∧ φ s R ∧ ∀ r s' G' H' v, R r s' → Same G G' → St K G' U H' σ s' → RsOk K G' U H' σ s' v r → Q v H'
def liftT (K : PySem.W.Frag) (φ : PhiT) : TT := fun σ H Q => ∃ G U s R, St K G U H σ s ∧ φ s R ∧ ∀ b s' G' H', R b s' → Same G G' → St K G' U H' σ s' → Q b H'
def liftA (K : PySem.W.Frag) (φ : PhiA) : TA := fun σ H Q => ∃ G U s R, St K G U H σ s ∧ φ s R ∧ ∀ ds s' G' H' vs, R ds s' → Same G G' → St K G' U H' σ s' → DVs K G' ds vs → Q vs H'
structure EOk (K : PySem.W.Frag) (G U : Hp) (Δ : DE) (E : Ends) : Prop where
  nx : ∀ s' G' H' σ', Δ.nx s' → Same G G' → St K G' U H' σ' s' → E.nx σ' H'
  bk : ∀ s' G' H' σ', Δ.bk s' → Same G G' → St K G' U H' σ' s' → E.bk σ' H'
  ct : ∀ s' G' H' σ', Δ.ct s' → Same G G' → St K G' U H' σ' s' → E.ct σ' H'
  rt : ∀ r μ' G' H' v, Δ.rt r μ' → Same G G' → Base K G' U H' μ' → Res K G' U H' μ' v r → E.rt v H'
def liftS (K : PySem.W.Frag) (φ : PhiS) : TS := fun E σ H => ∃ G U s Δ, St K G U H σ s ∧ φ Δ s ∧ EOk K G U Δ E

/-! ### facts of states -/
section
variable {K : PySem.W.Frag} {G G' U H H' : Hp} {σ : L2.St} {s : S} {v : V} {r x : Sl} {a p : Addr} {μ : Mu}
theorem EOk.mono {Δ : DE} {E : Ends} (e : Same G G') (h : EOk K G U Δ E) : EOk K G' U Δ E :=
  ⟨fun s' g H' σ' a b => h.nx s' g H' σ' a (e.trans b), fun s' g H' σ' a b => h.bk s' g H' σ' a (e.trans b), fun s' g H' σ' a b => h.ct s' g H' σ' a (e.trans b), fun r μ' g H' v a b => h.rt r μ' g H' v a (e.trans b)⟩
theorem Hd.mono (e : Same G G') (eh : H a = H' a) (h : Hd K G H a x) : Hd K G' H' a x := by
  cases x with
  | l ds => obtain ⟨xs, h1, h2⟩ := h; exact ⟨xs, eh ▸ h1, h2.mono e⟩
  | k ks ds => obtain ⟨xs, h1, h2, h3⟩ := h; exact ⟨xs, eh ▸ h1, h2, h3.mono e⟩
  | t ks ds => obtain ⟨xs, h1, h2, h3⟩ := h; exact ⟨xs, eh ▸ h1, h2, h3.mono e⟩
  | no => exact h.elim
  | d d => exact h.elim
  | b i => exact h.elim
theorem Hd.own (h : Hd K G H a x) : x.own = true := by
  cases x with
  | l ds => rfl
  | k ks ds => rfl
  | t ks ds => rfl
  | no => exact h.elim
  | d d => exact h.elim
  | b i => exact h.elim
theorem Hd.there (h : Hd K G H a x) : ∃ o, H a = some o := by
  cases x with
  | l ds => obtain ⟨xs, h1, h2⟩ := h; exact ⟨_, h1⟩
  | k ks ds => obtain ⟨xs, h1, h2, h3⟩ := h; exact ⟨_, h1⟩
  | t ks ds => obtain ⟨xs, h1, h2, h3⟩ := h; exact ⟨_, h1⟩
  | no => exact h.elim
  | d d => exact h.elim
  | b i => exact h.elim
theorem ObOk.mono {o : Ob} (e : Same G G') (eh : H a = H' a) (h : ObOk K G H a o) : ObOk K G' H' a o := by
  cases o with
  | ins C dx fs ds => obtain ⟨xs, h1, h2, h3⟩ := h; exact ⟨xs, eh ▸ h1, h2, h3.mono e⟩
  | sl x => exact Hd.mono e eh h
theorem ObOk.there {o : Ob} (h : ObOk K G H a o) : ∃ o, H a = some o := by
  cases o with
  | ins C dx fs ds => obtain ⟨xs, h1, h2, h3⟩ := h; exact ⟨_, h1⟩
  | sl x => exact Hd.there h
/-- an own slot's value -/
theorem SlOk.ownAt {o : Option V} (ho : x.own = true) (h : SlOk K G U H μ o x) : ∃ a, o = some (.ref a) ∧ G a = none ∧ U a = none ∧ μ a = none ∧ Hd K G H a x := by
  cases x with
  | l ds => exact h
  | k ks ds => exact h
  | t ks ds => exact h
  | no => cases ho
  | d d => cases ho
  | b i => cases ho
theorem SlOk.ofOwn {o : Option V} (h : ∃ a, o = some (.ref a) ∧ G a = none ∧ U a = none ∧ μ a = none ∧ Hd K G H a x) : SlOk K G U H μ o x := by
  cases x with
  | l ds => exact h
  | k ks ds => exact h
  | t ks ds => exact h
  | no => obtain ⟨_, _, _, _, _, h⟩ := h; exact h.elim
  | d d => obtain ⟨_, _, _, _, _, h⟩ := h; exact h.elim
  | b i => obtain ⟨_, _, _, _, _, h⟩ := h; exact h.elim
theorem Res.own (ho : r.own = true) : Res K G U H μ v r ↔ ∃ p, v = .ref p ∧ G p = none ∧ U p = none ∧ μ p = none ∧ Hd K G H p r := by
  cases r with
  | l ds => exact Iff.rfl
  | k ks ds => exact Iff.rfl
  | t ks ds => exact Iff.rfl
  | no => cases ho
  | d d => cases ho
  | b i => cases ho
theorem RsOk.own (ho : r.own = true) : RsOk K G U H σ s v r ↔ ∃ p, v = .ref p ∧ G p = none ∧ U p = none ∧ s.μ p = none ∧ Hd K G H p r ∧ ∀ i, ¬ OwnAt σ s.ρ i p := by
  cases r with
  | l ds => exact Iff.rfl
  | k ks ds => exact Iff.rfl
  | t ks ds => exact Iff.rfl
  | no => cases ho
  | d d => cases ho
  | b i => cases ho
theorem join_of {i : Nat} {v : V} (h : σ[i]? = some (some v)) : σ[i]?.join = some v := by rw [h]; rfl
theorem of_join {i : Nat} {v : V} (h : σ[i]?.join = some v) : σ[i]? = some (some v) := by
  cases e : σ[i]? with
  | none => rw [e] at h; cases h
  | some o =>
    rw [e] at h
    have h : o = some v := h
    rw [h]
theorem St.ownAt {i : Nat} (h : St K G U H σ s) (ho : (get s.ρ i).own = true) : ∃ a, σ[i]? = some (some (.ref a)) ∧ OwnAt σ s.ρ i a ∧ G a = none ∧ U a = none ∧ s.μ a = none ∧ Hd K G H a (get s.ρ i) := by
  obtain ⟨a, h1, h2, h3, h4, h5⟩ := (h.slot i).ownAt ho
  exact ⟨a, of_join h1, ⟨ho, of_join h1⟩, h2, h3, h4, h5⟩
theorem St.own_facts {i : Nat} (h : St K G U H σ s) (ho : OwnAt σ s.ρ i a) : G a = none ∧ U a = none ∧ s.μ a = none ∧ Hd K G H a (get s.ρ i) := by
  obtain ⟨b, h1, h2, h3, h4, h5, h6⟩ := h.ownAt ho.1
  have : a = b := by
    have e := ho.2.symm.trans h1
    injection e with e
    injection e with e
    injection e
  subst this
  exact ⟨h3, h4, h5, h6⟩
end
end DL
/-! DL2: freezing, looking, operators, names, calls: rules of expressions over trees. -/
namespace DL
open PySem PySem.Spec PyProof.Rows L2

section
variable {K : PySem.W.Frag} {G G' U H H' : Hp} {σ : L2.St} {s : S} {v : V} {r x : Sl} {a p : Addr} {μ μ' : Mu} {d : D}

theorem same_new {o : HO} (h : G p = none) : Same G (upd G p o) := fun b u e => by
  rw [upd_ne (ne_of_none e h)]
  exact e
/-- a tree read off a frozen object -/
theorem Hd.frz {o : HO} (ho : H p = some o) (h : Hd K G H p x) (e : Same G G') (hp : G' p = some o) : DV K G' (frzD x) (.ref p) := by
  cases x with
  | l ds =>
    obtain ⟨xs, h1, h2⟩ := h
    rw [h1] at ho
    cases ho
    exact ⟨p, xs, rfl, SqL.of hp, h2.mono e⟩
  | k ks ds =>
    obtain ⟨xs, h1, h2, h3⟩ := h
    rw [h1] at ho
    cases ho
    exact ⟨p, xs, rfl, .inl hp, h2, h3.mono e⟩
  | t ks ds =>
    obtain ⟨xs, h1, h2, h3⟩ := h
    rw [h1] at ho
    cases ho
    exact ⟨p, xs, rfl, .inl hp, h2, h3.mono e⟩
  | no => exact h.elim
  | d d => exact h.elim
  | b i => exact h.elim
theorem Base.freeze {o : HO} (h : Base K G U H μ) (ho : H p = some o) (hg : G p = none) (hu : U p = none) (hm : μ p = none) : Base K (upd G p o) U H μ := by
  refine ⟨fun b u e => ?_, h.usub, fun b u e => ?_, fun b u e => ?_, h.bx⟩
  · by_cases hb : b = p
    · subst hb
      rw [upd_same] at e
      cases e
      exact ho
    · rw [upd_ne hb] at e
      exact h.sub b u e
  · have hb : b ≠ p := fun z => by rw [z, hu] at e; cases e
    rw [upd_ne hb]
    exact h.ug b u e
  · have hb : b ≠ p := fun z => by rw [z, hm] at e; cases e
    rw [upd_ne hb]
    obtain ⟨h1, h2⟩ := h.mu b u e
    exact ⟨h1, h2.mono (same_new hg) rfl⟩
theorem SlOk.grow {o : Option V} (e : Same G G') (hn : ∀ a, o = some (.ref a) → x.own = true → G a = none → G' a = none) (h : SlOk K G U H μ o x) : SlOk K G' U H μ o x := by
  cases hx : x.own with
  | true =>
    obtain ⟨a, h1, h2, h3, h4, h5⟩ := h.ownAt hx
    exact .ofOwn ⟨a, h1, hn a h1 hx h2, h3, h4, h5.mono e rfl⟩
  | false =>
    cases x with
    | no => exact trivial
    | d d => obtain ⟨v, h1, h2⟩ := h; exact ⟨v, h1, h2.mono e⟩
    | b i => exact h.elim
    | l ds => cases hx
    | k ks ds => cases hx
    | t ks ds => cases hx
theorem St.freeze {o : HO} (h : St K G U H σ s) (ho : H p = some o) (hg : G p = none) (hu : U p = none) (hm : s.μ p = none) (hn : ∀ i, ¬ OwnAt σ s.ρ i p) : St K (upd G p o) U H σ s := by
  refine ⟨h.base.freeze ho hg hu hm, h.len, fun i => ?_, h.dis⟩
  refine (h.slot i).grow (same_new hg) fun a ha hx hga => ?_
  have hap : a ≠ p := fun z => hn i ⟨hx, by rw [← z]; exact of_join ha⟩
  rw [upd_ne hap]
  exact hga
/-- forget what a slot holds, or hold a tree there that it is -/
theorem St.know {i : Nat} {y : Sl} (h : St K G U H σ s) (hy : SlOk K G U H s.μ (σ[i]?.join) y) (hno : y.own = false) : St K G U H σ (s.set i y) := by
  refine ⟨h.base, ?_, fun j => ?_, fun j k a hjk h1 h2 => ?_⟩
  · show (put s.ρ i y).length = σ.length
    rw [put_len]
    exact h.len
  · show SlOk K G U H s.μ _ (get (put s.ρ i y) j)
    rw [get_put]
    split
    · rename_i e
      rw [e.1]
      exact hy
    · exact h.slot j
  · have back : ∀ {m : Nat}, OwnAt σ (put s.ρ i y) m a → OwnAt σ s.ρ m a := fun {m} ⟨q1, q2⟩ => by
      rw [get_put] at q1
      split at q1
      · rw [hno] at q1; cases q1
      · exact ⟨q1, q2⟩
    exact h.dis j k a hjk (back h1) (back h2)

def frz (s : S) : Sl → D × S
  | .b i => (frzD (get s.ρ i), s.set i (.d (frzD (get s.ρ i))))
  | r => (frzD r, s)
/-- freeze a value (a list that a slot owns is frozen there, too) and go on with its tree -/
def fz (r : Sl) (s : S) (k : D → S → Prop) : Prop := k (frz s r).1 (frz s r).2
def pin : Sl → Sl
  | .b i => .b i
  | .no => .no
  | r => .d (frzD r)
/-- look at a value -/
def lk (r : Sl) (s : S) (k : D → Prop) : Prop := match r with
  | .d d => k d
  | .l ds => k (.lst ds)
  | .k ks ds => k (.dic ks ds)
  | .t ks ds => k (.dit ks ds)
  | .b i => match get s.ρ i with
    | .d d => k d
    | .l ds => k (.lst ds)
    | .k ks ds => k (.dic ks ds)
    | .t ks ds => k (.dit ks ds)
    | _ => False
  | .no => False
def Lk (K : PySem.W.Frag) (G H : Hp) (d : D) (v : V) : Prop := DV K G d v ∨ ∃ p x, v = .ref p ∧ Hd K G H p x ∧ d = frzD x

theorem frz_ok (h : St K G U H σ s) (hr : RsOk K G U H σ s v r) : ∃ G', Same G G' ∧ St K G' U H σ (frz s r).2 ∧ DV K G' (frz s r).1 v := by
  have own : ∀ {r : Sl}, r.own = true → RsOk K G U H σ s v r → ∃ G', Same G G' ∧ St K G' U H σ s ∧ DV K G' (frzD r) v := fun {r} ho hr => by
    obtain ⟨p, e, h1, h2, h3, h4, h5⟩ := (RsOk.own ho).mp hr
    subst e
    obtain ⟨o, hp⟩ := h4.there
    exact ⟨upd G p o, same_new h1, h.freeze hp h1 h2 h3 h5, h4.frz hp (same_new h1) upd_same⟩
  cases r with
  | d d => exact ⟨G, Same.refl _, h, hr⟩
  | no => exact hr.elim
  | l ds => exact own rfl hr
  | k ks ds => exact own rfl hr
  | t ks ds => exact own rfl hr
  | b i =>
    obtain ⟨ho, e⟩ := hr
    obtain ⟨a, e', oa, h1, h2, h3, h4⟩ := h.ownAt ho
    have : v = .ref a := by
      rw [e] at e'
      injection e' with e'
      injection e'
    subst this
    obtain ⟨o, hp⟩ := h4.there
    have dv : DV K (upd G a o) (frzD (get s.ρ i)) (.ref a) := h4.frz hp (same_new h1) upd_same
    refine ⟨upd G a o, same_new h1, ?_, dv⟩
    show St K (upd G a o) U H σ (s.set i (.d (frzD (get s.ρ i))))
    refine ⟨h.base.freeze hp h1 h2 h3, ?_, fun j => ?_, fun j k b hjk q1 q2 => ?_⟩
    · show (put s.ρ i _).length = σ.length
      rw [put_len]
      exact h.len
    · show SlOk K _ U H s.μ _ (get (put s.ρ i _) j)
      rw [get_put]
      split
      · rename_i z
        rw [z.1]
        exact ⟨.ref a, join_of e, dv⟩
      · rename_i z
        refine (h.slot j).grow (same_new h1) fun b hb hx hgb => ?_
        have hba : b ≠ a := fun w => by
          subst w
          by_cases hj : j = i
          · subst hj
            refine z ⟨rfl, ?_⟩
            by_cases hl : j < s.ρ.length
            · exact hl
            · rw [get_ge _ _ (by omega)] at ho
              cases ho
          · exact h.dis j i b hj ⟨hx, of_join hb⟩ oa
        rw [upd_ne hba]
        exact hgb
    · have back : ∀ {m : Nat}, OwnAt σ (put s.ρ i (.d (frzD (get s.ρ i)))) m b → OwnAt σ s.ρ m b := fun {m} ⟨q1, q2⟩ => by
        rw [get_put] at q1
        split at q1
        · cases q1
        · exact ⟨q1, q2⟩
      exact h.dis j k b hjk (back q1) (back q2)
theorem pin_ok (h : St K G U H σ s) (hr : RsOk K G U H σ s v r) : ∃ G', Same G G' ∧ St K G' U H σ s ∧ ((∃ d, pin r = .d d ∧ DV K G' d v) ∨ ∃ i, pin r = .b i ∧ σ[i]? = some (some v)) := by
  have own : ∀ {r : Sl}, r.own = true → RsOk K G U H σ s v r → ∃ G', Same G G' ∧ St K G' U H σ s ∧ DV K G' (frzD r) v := fun {r} ho hr => by
    obtain ⟨p, e, h1, h2, h3, h4, h5⟩ := (RsOk.own ho).mp hr
    subst e
    obtain ⟨o, hp⟩ := h4.there
    exact ⟨upd G p o, same_new h1, h.freeze hp h1 h2 h3 h5, h4.frz hp (same_new h1) upd_same⟩
  cases r with
  | d d => exact ⟨G, Same.refl _, h, .inl ⟨d, rfl, hr⟩⟩
  | no => exact hr.elim
  | l ds =>
    obtain ⟨G', e, q1, q2⟩ := own rfl hr
    exact ⟨G', e, q1, .inl ⟨_, rfl, q2⟩⟩
  | k ks ds =>
    obtain ⟨G', e, q1, q2⟩ := own rfl hr
    exact ⟨G', e, q1, .inl ⟨_, rfl, q2⟩⟩
  | t ks ds =>
    obtain ⟨G', e, q1, q2⟩ := own rfl hr
    exact ⟨G', e, q1, .inl ⟨_, rfl, q2⟩⟩
  | b i => exact ⟨G, Same.refl _, h, .inr ⟨i, rfl, hr.2⟩⟩
/-- a pinned value -/
def Pn (K : PySem.W.Frag) (G : Hp) (σ : L2.St) (v : V) (r : Sl) : Prop := (∃ d, r = .d d ∧ DV K G d v) ∨ ∃ i, r = .b i ∧ σ[i]? = some (some v)
theorem Pn.mono (e : Same G G') (h : Pn K G σ v r) : Pn K G' σ v r := by
  rcases h with ⟨d, h1, h2⟩ | h
  · exact .inl ⟨d, h1, h2.mono e⟩
  · exact .inr h
theorem lk_ok {k : D → Prop} (h : St K G U H σ s) (hr : Pn K G σ v r) (hk : lk r s k) : ∃ d, Lk K G H d v ∧ k d := by
  rcases hr with ⟨d, rfl, h2⟩ | ⟨i, rfl, h2⟩
  · exact ⟨d, .inl h2, hk⟩
  · have hs := h.slot i
    unfold lk at hk
    simp only at hk
    cases e : get s.ρ i with
    | d d =>
      rw [e] at hk hs
      obtain ⟨w, h3, h4⟩ := hs
      rw [join_of h2] at h3
      cases h3
      exact ⟨d, .inl h4, hk⟩
    | no => rw [e] at hk; exact hk.elim
    | b j => rw [e] at hk; exact hk.elim
    | l ds =>
      rw [e] at hk hs
      obtain ⟨b, h3, h4, h5, h6, h7⟩ := hs
      rw [join_of h2] at h3
      cases h3
      exact ⟨_, .inr ⟨b, _, rfl, h7, rfl⟩, hk⟩
    | k ks ds =>
      rw [e] at hk hs
      obtain ⟨b, h3, h4, h5, h6, h7⟩ := hs
      rw [join_of h2] at h3
      cases h3
      exact ⟨_, .inr ⟨b, _, rfl, h7, rfl⟩, hk⟩
    | t ks ds =>
      rw [e] at hk hs
      obtain ⟨b, h3, h4, h5, h6, h7⟩ := hs
      rw [join_of h2] at h3
      cases h3
      exact ⟨_, .inr ⟨b, _, rfl, h7, rfl⟩, hk⟩
theorem pin_lk {k : D → Prop} {s : S} : lk (pin r) s k = lk r s k := by
  cases r <;> rfl

/-! ### what others own, for a call -/
open Classical in
noncomputable def Uo (U H : Hp) (σ : L2.St) (ρ : List Sl) : Hp := fun a => if (∃ i, OwnAt σ ρ i a) then H a else U a
theorem Uo_own {ρ : List Sl} {i : Nat} (h : OwnAt σ ρ i a) : Uo U H σ ρ a = H a := if_pos ⟨i, h⟩
theorem Uo_not {ρ : List Sl} (h : ¬ ∃ i, OwnAt σ ρ i a) : Uo U H σ ρ a = U a := if_neg h
theorem St.out (h : St K G U H σ s) : Base K G (Uo U H σ s.ρ) H s.μ := by
  refine ⟨h.base.sub, fun b o e => ?_, fun b o e => ?_, h.base.mu, fun b xs e => ?_⟩
  · by_cases hb : ∃ i, OwnAt σ s.ρ i b
    · obtain ⟨i, hb⟩ := hb
      rw [Uo_own hb] at e
      exact e
    · rw [Uo_not hb] at e
      exact h.base.usub b o e
  · by_cases hb : ∃ i, OwnAt σ s.ρ i b
    · obtain ⟨i, hb⟩ := hb
      obtain ⟨h1, h2, h3, h4⟩ := h.own_facts hb
      exact ⟨h1, h3⟩
    · rw [Uo_not hb] at e
      exact h.base.ug b o e
  · by_cases hb : ∃ i, OwnAt σ s.ρ i b
    · obtain ⟨i, hb⟩ := hb
      rw [Uo_own hb] at e
      have hd := (h.own_facts hb).2.2.2
      cases hx : get s.ρ i with
      | l ds => rw [hx] at hd; obtain ⟨_, q, _⟩ := hd; rw [q] at e; cases e
      | k ks ds => rw [hx] at hd; obtain ⟨_, q, _⟩ := hd; rw [q] at e; cases e
      | t ks ds => rw [hx] at hd; obtain ⟨_, q, _⟩ := hd; rw [q] at e; cases e
      | no => rw [hx] at hd; exact hd.elim
      | d d => rw [hx] at hd; exact hd.elim
      | b j => rw [hx] at hd; exact hd.elim
    · rw [Uo_not hb] at e
      exact h.base.bx b xs e
theorem St.back (h : St K G U H σ s) (e : Same G G') (b : Base K G' (Uo U H σ s.ρ) H' μ') : St K G' U H' σ ⟨s.ρ, μ'⟩ := by
  have un : ∀ c o, U c = some o → Uo U H σ s.ρ c = some o := fun c o q => by
    rw [Uo_not]
    · exact q
    · rintro ⟨i, hi⟩
      have := (h.own_facts hi).2.1
      rw [q] at this
      cases this
  refine ⟨⟨b.sub, fun c o q => b.usub c o (un c o q), fun c o q => b.ug c o (un c o q), b.mu, fun c xs q => b.bx c xs (un c _ q)⟩, h.len, fun i => ?_, h.dis⟩
  cases hx : (get s.ρ i).own with
  | true =>
    obtain ⟨a, e1, oa, h1, h2, h3, h4⟩ := h.ownAt hx
    obtain ⟨o, ho⟩ := h4.there
    have hu : Uo U H σ s.ρ a = some o := (Uo_own oa).trans ho
    have q := b.ug a o hu
    exact .ofOwn ⟨a, join_of e1, q.1, h2, q.2, h4.mono e (ho.trans (b.usub a o hu).symm)⟩
  | false =>
    have hs := h.slot i
    show SlOk K G' U H' μ' (σ[i]?.join) (get s.ρ i)
    cases e' : get s.ρ i with
    | no => exact trivial
    | d d =>
      rw [e'] at hs
      obtain ⟨v, h1, h2⟩ := hs
      exact ⟨v, h1, h2.mono e⟩
    | b j => rw [e'] at hs; exact hs.elim
    | l ds => rw [e'] at hx; cases hx
    | k ks ds => rw [e'] at hx; cases hx
    | t ks ds => rw [e'] at hx; cases hx
theorem Res.rs {ρ : List Sl} (h : St K G U H σ s) (hr : Res K G' (Uo U H σ s.ρ) H' μ' v r) : RsOk K G' U H' σ ⟨s.ρ, μ'⟩ v r := by
  cases ho : r.own with
  | true =>
    obtain ⟨p, e, h1, h2, h3, h4⟩ := (Res.own ho).mp hr
    have no : ¬ ∃ i, OwnAt σ s.ρ i p := fun ⟨i, hi⟩ => by
      rw [Uo_own hi] at h2
      obtain ⟨o, q⟩ := (h.own_facts hi).2.2.2.there
      rw [q] at h2
      cases h2
    rw [Uo_not no] at h2
    exact (RsOk.own ho).mpr ⟨p, e, h1, h2, h3, h4, fun i hi => no ⟨i, hi⟩⟩
  | false =>
    cases r with
    | d d => exact hr
    | no => exact hr.elim
    | b i => exact hr.elim
    | l ds => cases ho
    | k ks ds => cases ho
    | t ks ds => cases ho
end

/-! ### rules by values -/
abbrev O1 := D → (Sl → Prop) → Prop
abbrev O2 := D → D → (Sl → Prop) → Prop
abbrev OA := List D → (Sl → Prop) → Prop
abbrev Con (K : PySem.W.Frag) (G U : Hp) (μ : Mu) (R : Sl → Prop) (Q : VK) : Prop := ∀ r v G' H', R r → Same G G' → Base K G' U H' μ → Res K G' U H' μ v r → Q v H'
def OpS (K : PySem.W.Frag) (r : R2) (o : O2) : Prop := ∀ (G U H : Hp) (μ : Mu) (x y : V) (dx dy : D) (R : Sl → Prop) (Q : VK), Base K G U H μ → Lk K G H dx x → Lk K G H dy y → o dx dy R → Con K G U μ R Q → r x y H Q
def UnS (K : PySem.W.Frag) (r : V → Hp → VK → Prop) (o : O1) : Prop := ∀ (G U H : Hp) (μ : Mu) (x : V) (dx : D) (R : Sl → Prop) (Q : VK), Base K G U H μ → Lk K G H dx x → o dx R → Con K G U μ R Q → r x H Q
/-- a call by values: its arguments frozen -/
def CallS (K : PySem.W.Frag) (r : List V → Hp → VK → Prop) (o : OA) : Prop := ∀ (G U H : Hp) (μ : Mu) (xs : List V) (ds : List D) (R : Sl → Prop) (Q : VK), Base K G U H μ → DVs K G ds xs → o ds R → Con K G U μ R Q → r xs H Q
/-- a call of one argument that is looked at -/
def Call1S (K : PySem.W.Frag) (r : List V → Hp → VK → Prop) (o : O1) : Prop := ∀ (G U H : Hp) (μ : Mu) (x : V) (d : D) (R : Sl → Prop) (Q : VK), Base K G U H μ → Lk K G H d x → o d R → Con K G U μ R Q → r [x] H Q

theorem con_ok {K : PySem.W.Frag} {G0 G U H : Hp} {σ : L2.St} {s : S} {R : Sl → S → Prop} {Q : VK} (h : St K G U H σ s) (e0 : Same G0 G)
    (k : ∀ r s' G' H' v, R r s' → Same G0 G' → St K G' U H' σ s' → RsOk K G' U H' σ s' v r → Q v H') : Con K G (Uo U H σ s.ρ) s.μ (fun r => R r s) Q := fun r v G' H' hr e b hv =>
  k r s G' H' v hr (e0.trans e) (h.back e b) (hv.rs (ρ := s.ρ) h)

/-! ### expressions -/
section
variable {X : Cx} {e e1 e2 : Expr} {φ φ1 φ2 : PhiE}
theorem _root_.L2.PE.imp {t t' : TE} (h : PE X e t) (i : ∀ σ H Q, t' σ H Q → t σ H Q) : PE X e t' := ⟨fun pins s σ H Q I q => h.run pins s σ H Q I (i σ H Q q)⟩
theorem _root_.L2.PT.imp {t t' : TT} (h : PT X e t) (i : ∀ σ H Q, t' σ H Q → t σ H Q) : PT X e t' := ⟨fun pins s σ H Q I q => h.run pins s σ H Q I (i σ H Q q)⟩
theorem _root_.L2.PW.imp {t t' : TT} (h : PW X e t) (i : ∀ σ H Q, t' σ H Q → t σ H Q) : PW X e t' := ⟨fun w pins s σ H Q I q => h.run w pins s σ H Q I (i σ H Q q)⟩
theorem _root_.L2.PA.imp {es : List Expr} {t t' : TA} (h : PA X es t) (i : ∀ σ H Q, t' σ H Q → t σ H Q) : PA X es t' := ⟨fun p pins s σ H Q I q => h.run p pins s σ H Q I (i σ H Q q)⟩
theorem _root_.L2.PS.imp {st : Stmt} {t t' : TS} (h : PS X st t) (i : ∀ E σ H, t' E σ H → t E σ H) : PS X st t' := ⟨fun pins s σ H E I q => h.run pins s σ H E I (i E σ H q)⟩
theorem _root_.L2.PSs.imp {st : List Stmt} {t t' : TS} (h : PSs X st t) (i : ∀ E σ H, t' E σ H → t E σ H) : PSs X st t' := ⟨fun pins s σ H E I q => h.run pins s σ H E I (i E σ H q)⟩

/-- a constant -/
def eC (d : D) : PhiE := fun s R => R (.d d) s
theorem de_c {v : V} {d : D} (h : PE X e (tC v)) (hv : ∀ G, DV X.K G d v) : PE X e (liftE X.K (eC d)) := h.imp fun σ H Q ⟨G, U, s, R, hs, hr, k⟩ => k _ s G H v hr (Same.refl _) hs (hv G)
theorem de_int {i j pos} : PE X (.Constant (.int i) j pos) (liftE X.K (eC (.int i))) := de_c pe_int fun _ => rfl
theorem de_bl {b j pos} : PE X (.Constant (.bool b) j pos) (liftE X.K (eC (.bl b))) := de_c pe_bl fun _ => rfl
theorem de_non {j pos} : PE X (.Constant .none j pos) (liftE X.K (eC .non)) := de_c pe_non fun _ => rfl
theorem de_str {x j pos} : PE X (.Constant (.str x) j pos) (liftE X.K (eC (.str x))) := de_c pe_str fun _ => rfl
/-- a name of the frame -/
def eV (i : Nat) : PhiE := fun s R => match get s.ρ i with
  | .d d => R (.d d) s
  | .l _ => R (.b i) s
  | .k _ _ => R (.b i) s
  | .t _ _ => R (.b i) s
  | _ => False
theorem de_v {i : Nat} (h : PE X e (tVar i)) : PE X e (liftE X.K (eV i)) := h.imp fun σ H Q ⟨G, U, s, R, hs, hr, k⟩ => by
  have hx := hs.slot i
  unfold eV at hr
  have own : (get s.ρ i).own = true → R (.b i) s → tVar i σ H Q := fun ho hr => by
    obtain ⟨a, q1, q2, _⟩ := hs.ownAt ho
    exact ⟨.ref a, q1, k _ s G H _ hr (Same.refl _) hs ⟨ho, q1⟩⟩
  cases e' : get s.ρ i with
  | d d =>
    rw [e'] at hx hr
    obtain ⟨v, h1, h2⟩ := hx
    exact ⟨v, of_join h1, k _ s G H v hr (Same.refl _) hs h2⟩
  | no => rw [e'] at hr; exact hr.elim
  | b j => rw [e'] at hr; exact hr.elim
  | l ds => rw [e'] at hr; exact own (by rw [e']; rfl) hr
  | k ks ds => rw [e'] at hr; exact own (by rw [e']; rfl) hr
  | t ks ds => rw [e'] at hr; exact own (by rw [e']; rfl) hr
/-- a binary operator -/
def eOp (o : O2) (φ1 φ2 : PhiE) : PhiE := fun s R => φ1 s fun r1 s1 => φ2 s1 fun r2 s2 => lk r1 s2 fun x => lk r2 s2 fun y => o x y fun r => R r s2
theorem op_of {r : R2} {o : O2} (ho : OpS X.K r o) {σ : L2.St} {H : Hp} {Q : VK} (q : liftE X.K (eOp o φ1 φ2) σ H Q) : tOp r (liftE X.K φ1) (liftE X.K φ2) σ H Q := by
  obtain ⟨G, U, s, R, hs, hr, k⟩ := q
  refine ⟨G, U, s, _, hs, hr, fun r1 s1 G1 H1 v1 q1 e1 hs1 hv1 => ?_⟩
  obtain ⟨G1', e1', hs1', p1⟩ := pin_ok hs1 hv1
  refine ⟨G1', U, s1, _, hs1', q1, fun r2 s2 G2 H2 v2 q2 e2 hs2 hv2 => ?_⟩
  obtain ⟨G2', e2', hs2', p2⟩ := pin_ok hs2 hv2
  rw [← pin_lk] at q2
  obtain ⟨x, lx, q2⟩ := lk_ok hs2' (Pn.mono (e2.trans e2') p1) q2
  rw [← pin_lk] at q2
  obtain ⟨y, ly, q2⟩ := lk_ok hs2' p2 q2
  exact ho G2' _ H2 s2.μ v1 v2 x y _ Q hs2'.out lx ly q2 (con_ok hs2' ((((e1.trans e1').trans e2).trans e2')) k)
theorem de_op {op : Operator} {r : R2} {o : O2} {pos : Pos} (hr : OpR X (binaryOp op) r) (ho : OpS X.K r o) (h1 : PE X e1 (liftE X.K φ1)) (h2 : PE X e2 (liftE X.K φ2)) : PE X (.BinOp e1 op e2 pos) (liftE X.K (eOp o φ1 φ2)) :=
  (pe_op hr h1 h2).imp fun _ _ _ q => op_of ho q
theorem de_cmp {op : CmpOp} {r : R2} {o : O2} {pos : Pos} (hr : OpR X (compareOp op) r) (hm : behindInMarks op e2 = false) (ho : OpS X.K r o) (h1 : PE X e1 (liftE X.K φ1)) (h2 : PE X e2 (liftE X.K φ2)) : PE X (.Compare e1 [op] [e2] pos) (liftE X.K (eOp o φ1 φ2)) :=
  (pe_cmpR hr h1 h2 hm).imp fun _ _ _ q => op_of ho q
theorem de_ix {r : R2} {o : O2} {pos : Pos} (hr : IxR X r) (hp : PlainIx e2) (ho : OpS X.K r o) (h1 : PE X e1 (liftE X.K φ1)) (h2 : PE X e2 (liftE X.K φ2)) : PE X (.Subscript e1 e2 pos) (liftE X.K (eOp o φ1 φ2)) :=
  (pe_ix hr h1 h2 hp).imp fun _ _ _ q => op_of ho q
/-- a unary operator -/
def eUn (o : O1) (φ : PhiE) : PhiE := fun s R => φ s fun r1 s1 => lk r1 s1 fun x => o x fun r => R r s1
theorem un_of {r : V → Hp → VK → Prop} {o : O1} (ho : UnS X.K r o) {σ : L2.St} {H : Hp} {Q : VK} (q : liftE X.K (eUn o φ) σ H Q) : liftE X.K φ σ H fun x H1 => r x H1 Q := by
  obtain ⟨G, U, s, R, hs, hr, k⟩ := q
  refine ⟨G, U, s, _, hs, hr, fun r1 s1 G1 H1 v1 q1 e1 hs1 hv1 => ?_⟩
  obtain ⟨G1', e1', hs1', p1⟩ := pin_ok hs1 hv1
  rw [← pin_lk] at q1
  obtain ⟨x, lx, q1⟩ := lk_ok hs1' p1 q1
  exact ho G1' _ H1 s1.μ v1 x _ Q hs1'.out lx q1 (con_ok hs1' (e1.trans e1') k)
theorem de_un {op : UnaryOp} {r : V → Hp → VK → Prop} {o : O1} {pos : Pos} (hr : UnR X (unaryOp op) r) (ho : UnS X.K r o) (h1 : PE X e (liftE X.K φ)) : PE X (.UnaryOp op e pos) (liftE X.K (eUn o φ)) :=
  (pe_un hr h1).imp fun _ _ _ q => un_of ho q

/-! ### arguments -/
def aNil : PhiA := fun s R => R [] s
def aCons (φ : PhiE) (ψ : PhiA) : PhiA := fun s R => φ s fun r s1 => fz r s1 fun d s2 => ψ s2 fun ds s3 => R (d :: ds) s3
theorem da_nil : PA X [] (liftA X.K aNil) := pa_nil.imp fun σ H Q ⟨G, U, s, R, hs, hr, k⟩ => k [] s G H [] hr (Same.refl _) hs rfl
theorem da_cons {es : List Expr} {ψ : PhiA} (h : PE X e (liftE X.K φ)) (hr : PA X es (liftA X.K ψ)) (hs : starEach (e :: es) X.env = (false, eval e X.env) :: starEach es X.env := by rfl) : PA X (e :: es) (liftA X.K (aCons φ ψ)) :=
  (pa_cons h hr hs).imp fun σ H Q ⟨G, U, s, R, hs, hr, k⟩ => by
    refine ⟨G, U, s, _, hs, hr, fun r1 s1 G1 H1 v1 q1 e1 hs1 hv1 => ?_⟩
    obtain ⟨G1', e1', hs1', d1⟩ := frz_ok hs1 hv1
    exact ⟨G1', U, _, _, hs1', q1, fun ds s2 G2 H2 vs q2 e2 hs2 dvs => k _ s2 G2 H2 _ q2 ((e1.trans e1').trans e2) hs2 ⟨v1, vs, rfl, d1.mono e2, dvs⟩⟩
end
end DL
/-! DL3: tests, statements, loops, targets, calls of defs, a def's promise. -/
namespace DL
open PySem PySem.Spec PyProof.Rows L2

section
variable {K : PySem.W.Frag} {G G' U H H' : Hp} {σ : L2.St} {s : S} {v : V} {r x : Sl} {a p : Addr} {μ μ' : Mu} {d : D}
theorem Lk.dv (h : DV K G d v) : Lk K G H d v := .inl h
/-- the value of an own slot, or of a tree, after a store of it in slot i -/
theorem St.store {i : Nat} (h : St K G U H σ s) (hr : RsOk K G U H σ s v r) (hb : ∀ j, r ≠ .b j) : St K G U H (σ.set i (some v)) (s.set i r) := by
  have hlen : (put s.ρ i r).length = (σ.set i (some v)).length := by rw [put_len, List.length_set]; exact h.len
  have hiff : ∀ j, j = i → i < s.ρ.length → (σ.set i (some v))[j]? = some (some v) := fun j hj hl => by
    rw [hj, List.getElem?_set_self (by rw [← h.len]; exact hl)]
  have hne : ∀ j, ¬ (j = i ∧ i < s.ρ.length) → (σ.set i (some v))[j]? = σ[j]? := fun j hj => by
    by_cases e : j = i
    · have : ¬ i < s.ρ.length := fun z => hj ⟨e, z⟩
      rw [h.len] at this
      rw [List.set_eq_of_length_le (by omega)]
    · rw [List.getElem?_set_ne (Ne.symm e)]
  have own_of : ∀ {j : Nat} {a : Addr}, OwnAt (σ.set i (some v)) (put s.ρ i r) j a → (j = i ∧ i < s.ρ.length ∧ r.own = true ∧ v = .ref a) ∨ (¬ (j = i ∧ i < s.ρ.length) ∧ OwnAt σ s.ρ j a) := fun {j a} ⟨q1, q2⟩ => by
    rw [get_put] at q1
    by_cases e : j = i ∧ i < s.ρ.length
    · rw [if_pos e] at q1
      rw [hiff j e.1 e.2] at q2
      injection q2 with q2
      injection q2 with q2
      exact .inl ⟨e.1, e.2, q1, q2⟩
    · rw [if_neg e] at q1
      rw [hne j e] at q2
      exact .inr ⟨e, q1, q2⟩
  refine ⟨h.base, hlen, fun j => ?_, fun j k a hjk q1 q2 => ?_⟩
  · show SlOk K G U H s.μ _ (get (put s.ρ i r) j)
    rw [get_put]
    by_cases e : j = i ∧ i < s.ρ.length
    · rw [if_pos e, hiff j e.1 e.2]
      cases ho : r.own with
      | true =>
        obtain ⟨p, e1, h1, h2, h3, h4, h5⟩ := (RsOk.own ho).mp hr
        subst e1
        exact .ofOwn ⟨p, rfl, h1, h2, h3, h4⟩
      | false =>
        cases r with
        | d d => exact ⟨v, rfl, hr⟩
        | no => exact hr.elim
        | b k => exact absurd rfl (hb k)
        | l ds => cases ho
        | k ks ds => cases ho
        | t ks ds => cases ho
    · rw [if_neg e, hne j e]
      exact h.slot j
  · have fresh : ∀ {m : Nat}, r.own = true → v = .ref a → ¬ OwnAt σ s.ρ m a := fun {m} ho hv hm => by
      obtain ⟨p, e1, h1, h2, h3, h4, h5⟩ := (RsOk.own ho).mp hr
      rw [e1] at hv
      injection hv with hv
      subst hv
      exact h5 m hm
    rcases own_of q1 with ⟨e1, _, r1, v1⟩ | ⟨n1, o1⟩
    · rcases own_of q2 with ⟨e2, _, _, _⟩ | ⟨n2, o2⟩
      · exact hjk (e1.trans e2.symm)
      · exact fresh r1 v1 o2
    · rcases own_of q2 with ⟨e2, _, r2, v2⟩ | ⟨n2, o2⟩
      · exact fresh r2 v2 o1
      · exact h.dis j k a hjk o1 o2
theorem RsOk.ofDV (h : DV K G d v) : RsOk K G U H σ s v (.d d) := h
theorem St.setD {i : Nat} (h : St K G U H σ s) (hv : DV K G d v) : St K G U H (σ.set i (some v)) (s.set i (.d d)) := h.store (r := .d d) hv (fun j z => by cases z)
end

/-! ### tests -/
def truD (k : Bool → Prop) : D → Prop
  | .non => k false
  | .bl b => k b
  | .int i => k (i != 0)
  | .str x => x.length ≤ sizeLine ∧ k ((x.length : Int) != 0)
  | .tup ds => k (!ds.isEmpty)
  | .lst ds => k (!ds.isEmpty)
  | _ => False
theorem DVs.empty {K : PySem.W.Frag} {G : Hp} {ds : List D} {xs : List V} (q : DVs K G ds xs) : xs.isEmpty = ds.isEmpty := by
  cases ds with
  | nil =>
    have q : xs = [] := q
    subst q
    rfl
  | cons y ys =>
    obtain ⟨_, _, q, _⟩ := q
    subst q
    rfl
/-- a list that is looked at -/
theorem Lk.lst {K : PySem.W.Frag} {G U H : Hp} {μ : Mu} {ds : List D} {v : V} (b : Base K G U H μ) (h : Lk K G H (.lst ds) v) : ∃ a xs, v = .ref a ∧ SqL K H a xs ∧ DVs K G ds xs := by
  rcases h with ⟨a, xs, hv, h1, h2⟩ | ⟨p, x, hv, hh, hd⟩
  · exact ⟨a, xs, hv, b.sub.seq h1, h2⟩
  · cases x with
    | l es =>
      obtain ⟨xs, h1, h2⟩ := hh
      injection hd with hd
      subst hd
      exact ⟨p, xs, hv, SqL.of h1, h2⟩
    | k ks ds => cases hd
    | t ks ds => cases hd
    | no => exact hh.elim
    | d d => exact hh.elim
    | b i => exact hh.elim
theorem Lk.tup {K : PySem.W.Frag} {G U H : Hp} {μ : Mu} {ds : List D} {v : V} (b : Base K G U H μ) (h : Lk K G H (.tup ds) v) : ∃ a xs, v = .ref a ∧ SqT K H a xs ∧ DVs K G ds xs := by
  rcases h with ⟨a, xs, hv, h1, h2⟩ | ⟨p, x, hv, hh, hd⟩
  · exact ⟨a, xs, hv, SqT.of (b.sub _ _ h1), h2⟩
  · cases x with
    | l es => cases hd
    | k ks ds => cases hd
    | t ks ds => cases hd
    | no => exact hh.elim
    | d d => exact hh.elim
    | b i => exact hh.elim
theorem Lk.tupS {K : PySem.W.Frag} {G U H : Hp} {μ : Mu} {ds : List D} {v : V} (b : Base K G U H μ) (h : Lk K G H (.tup ds) v) : ∃ a xs, v = .ref a ∧ H a = some (.tup xs) ∧ DVs K G ds xs := by
  rcases h with ⟨a, xs, hv, h1, h2⟩ | ⟨p, x, hv, hh, hd⟩
  · exact ⟨a, xs, hv, b.sub _ _ h1, h2⟩
  · cases x with
    | l es => cases hd
    | k ks ds => cases hd
    | t ks ds => cases hd
    | no => exact hh.elim
    | d d => exact hh.elim
    | b i => exact hh.elim
theorem Lk.tpl {K : PySem.W.Frag} {G U H : Hp} {μ : Mu} {ds : List D} {v : V} (b : Base K G U H μ) (h : Lk K G H (.tpl ds) v) : ∃ a xs, v = .ref a ∧ SqT K H a xs ∧ DVs K G ds xs := by
  rcases h with ⟨a, xs, hv, h1, h2⟩ | ⟨p, x, hv, hh, hd⟩
  · exact ⟨a, xs, hv, same_t b.sub h1, h2⟩
  · cases x with
    | l es => cases hd
    | k ks ds => cases hd
    | t ks ds => cases hd
    | no => exact hh.elim
    | d d => exact hh.elim
    | b i => exact hh.elim
theorem Lk.dit {K : PySem.W.Frag} {G U H : Hp} {μ : Mu} {ks : List (List Key)} {ds : List D} {v : V} (b : Base K G U H μ) (h : Lk K G H (.dit ks ds) v) : ∃ a xs, v = .ref a ∧ Rd H a (.dT (ks.zip xs)) ∧ ks.length = xs.length ∧ DVs K G ds xs := by
  rcases h with ⟨a, xs, hv, h1, h2⟩ | ⟨p, x, hv, hh, hd⟩
  · exact ⟨a, xs, hv, same_rd b.sub h1, h2⟩
  · cases x with
    | l es => cases hd
    | t es ds =>
      obtain ⟨xs, h1, h2, h3⟩ := hh
      injection hd with hd1 hd2
      subst hd1 hd2
      exact ⟨p, xs, hv, .inl h1, h2, h3⟩
    | k ks ds => cases hd
    | no => exact hh.elim
    | d d => exact hh.elim
    | b i => exact hh.elim
theorem Lk.dic {K : PySem.W.Frag} {G U H : Hp} {μ : Mu} {ks : List Key} {ds : List D} {v : V} (b : Base K G U H μ) (h : Lk K G H (.dic ks ds) v) : ∃ a xs, v = .ref a ∧ Rd H a (.dK (ks.zip xs)) ∧ ks.length = xs.length ∧ DVs K G ds xs := by
  rcases h with ⟨a, xs, hv, h1, h2⟩ | ⟨p, x, hv, hh, hd⟩
  · exact ⟨a, xs, hv, same_rd b.sub h1, h2⟩
  · cases x with
    | l es => cases hd
    | k es ds =>
      obtain ⟨xs, h1, h2, h3⟩ := hh
      injection hd with hd1 hd2
      subst hd1 hd2
      exact ⟨p, xs, hv, .inl h1, h2, h3⟩
    | t ks ds => cases hd
    | no => exact hh.elim
    | d d => exact hh.elim
    | b i => exact hh.elim
/-- what is flat is itself -/
theorem Lk.flat {K : PySem.W.Frag} {G H : Hp} {d : D} {v : V} (h : Lk K G H d v) : (d = .non → v = .non) ∧ (∀ b, d = .bl b → v = .bl b) ∧ (∀ i, d = .int i → v = .int i) ∧ (∀ x, d = .str x → v = .str x) ∧ (∀ n, d = .ty n → v = .ty n) ∧ (∀ a, d = .ref a → v = .ref a) := by
  rcases h with h | ⟨p, x, hv, hh, hd⟩
  · cases d with
    | non => exact ⟨fun _ => h, fun _ z => by (cases z), fun _ z => by (cases z), fun _ z => by (cases z), fun _ z => by (cases z), fun _ z => by (cases z)⟩
    | bl c => exact ⟨fun z => by (cases z), fun _ z => by (cases z; exact h), fun _ z => by (cases z), fun _ z => by (cases z), fun _ z => by (cases z), fun _ z => by (cases z)⟩
    | int i => exact ⟨fun z => by (cases z), fun _ z => by (cases z), fun _ z => by (cases z; exact h), fun _ z => by (cases z), fun _ z => by (cases z), fun _ z => by (cases z)⟩
    | str x => exact ⟨fun z => by (cases z), fun _ z => by (cases z), fun _ z => by (cases z), fun _ z => by (cases z; exact h), fun _ z => by (cases z), fun _ z => by (cases z)⟩
    | ty n => exact ⟨fun z => by (cases z), fun _ z => by (cases z), fun _ z => by (cases z), fun _ z => by (cases z), fun _ z => by (cases z; exact h), fun _ z => by (cases z)⟩
    | ref a => exact ⟨fun z => by (cases z), fun _ z => by (cases z), fun _ z => by (cases z), fun _ z => by (cases z), fun _ z => by (cases z), fun _ z => by (cases z; exact h)⟩
    | tup ds => exact ⟨fun z => by (cases z), fun _ z => by (cases z), fun _ z => by (cases z), fun _ z => by (cases z), fun _ z => by (cases z), fun _ z => by (cases z)⟩
    | lst ds => exact ⟨fun z => by (cases z), fun _ z => by (cases z), fun _ z => by (cases z), fun _ z => by (cases z), fun _ z => by (cases z), fun _ z => by (cases z)⟩
    | dic ks ds => exact ⟨fun z => by (cases z), fun _ z => by (cases z), fun _ z => by (cases z), fun _ z => by (cases z), fun _ z => by (cases z), fun _ z => by (cases z)⟩
    | dit ks ds => exact ⟨fun z => by (cases z), fun _ z => by (cases z), fun _ z => by (cases z), fun _ z => by (cases z), fun _ z => by (cases z), fun _ z => by (cases z)⟩
    | dlr => exact ⟨fun z => by (cases z), fun _ z => by (cases z), fun _ z => by (cases z), fun _ z => by (cases z), fun _ z => by (cases z), fun _ z => by (cases z)⟩
    | mch w0 => exact ⟨fun z => by (cases z), fun _ z => by (cases z), fun _ z => by (cases z), fun _ z => by (cases z), fun _ z => by (cases z), fun _ z => by (cases z)⟩
    | tpl ds => exact ⟨fun z => by (cases z), fun _ z => by (cases z), fun _ z => by (cases z), fun _ z => by (cases z), fun _ z => by (cases z), fun _ z => by (cases z)⟩
  · subst hd
    cases x with
    | l es => exact ⟨fun z => by (cases z), fun _ z => by (cases z), fun _ z => by (cases z), fun _ z => by (cases z), fun _ z => by (cases z), fun _ z => by (cases z)⟩
    | k ks ds => exact ⟨fun z => by (cases z), fun _ z => by (cases z), fun _ z => by (cases z), fun _ z => by (cases z), fun _ z => by (cases z), fun _ z => by (cases z)⟩
    | t ks ds => exact ⟨fun z => by (cases z), fun _ z => by (cases z), fun _ z => by (cases z), fun _ z => by (cases z), fun _ z => by (cases z), fun _ z => by (cases z)⟩
    | no => exact hh.elim
    | d d => exact hh.elim
    | b i => exact hh.elim
theorem Lk.int {K : PySem.W.Frag} {G H : Hp} {i : Int} {v : V} (h : Lk K G H (.int i) v) : v = .int i := h.flat.2.2.1 i rfl
theorem Lk.str {K : PySem.W.Frag} {G H : Hp} {i : Str} {v : V} (h : Lk K G H (.str i) v) : v = .str i := h.flat.2.2.2.1 i rfl
theorem Lk.bl {K : PySem.W.Frag} {G H : Hp} {i : Bool} {v : V} (h : Lk K G H (.bl i) v) : v = .bl i := h.flat.2.1 i rfl
theorem Lk.non {K : PySem.W.Frag} {G H : Hp} {v : V} (h : Lk K G H .non v) : v = .non := h.flat.1 rfl
theorem tru_ok {K : PySem.W.Frag} {G U H : Hp} {μ : Mu} {d : D} {v : V} {k : Bool → Prop} (b : Base K G U H μ) (h : Lk K G H d v) (hk : truD k d) : ∃ c, TruV K v H c ∧ k c := by
  cases d with
  | non => cases h.non; exact ⟨_, rfl, hk⟩
  | bl c => cases h.bl; exact ⟨_, rfl, hk⟩
  | int i => cases h.int; exact ⟨_, rfl, hk⟩
  | str x => cases h.str; exact ⟨_, ⟨hk.1, rfl⟩, hk.2⟩
  | tup ds =>
    obtain ⟨a, xs, hv, h1, h2⟩ := h.tup b
    subst hv
    exact ⟨_, .inr (.inl ⟨xs, h1, rfl⟩), by rw [h2.empty]; exact hk⟩
  | lst ds =>
    obtain ⟨a, xs, hv, h1, h2⟩ := h.lst b
    subst hv
    exact ⟨_, .inl ⟨xs, h1, rfl⟩, by rw [h2.empty]; exact hk⟩
  | dic ks ds => exact hk.elim
  | dit ks ds => exact hk.elim
  | dlr => exact hk.elim
  | mch w0 => exact hk.elim
  | tpl ds => exact hk.elim
  | ty n => exact hk.elim
  | ref a => exact hk.elim

section
variable {X : Cx} {e e1 e2 : Expr} {φ φ1 φ2 : PhiE} {τ τ1 τ2 : PhiT} {pos : Pos}
/-- truth of a value -/
def tT (φ : PhiE) : PhiT := fun s R => φ s fun r s1 => lk r s1 fun d => truD (fun b => R b s1) d
theorem dt_tru (h : PE X e (liftE X.K φ)) (he : ∀ whole, isTrue e X.env whole = (do let v ← whole; standAt e.pos; holding [v] (truthy v)) := by intro _; rfl) : PT X e (liftT X.K (tT φ)) :=
  (pt_truth h he).imp fun σ H Q ⟨G, U, s, R, hs, hr, k⟩ => by
    refine ⟨G, U, s, _, hs, hr, fun r1 s1 G1 H1 v1 q1 e1 hs1 hv1 => ?_⟩
    obtain ⟨G1', e1', hs1', p1⟩ := pin_ok hs1 hv1
    rw [← pin_lk] at q1
    obtain ⟨x, lx, q1⟩ := lk_ok hs1' p1 q1
    obtain ⟨c, hc, q⟩ := tru_ok hs1'.base lx q1
    exact ⟨c, hc, k c s1 G1' H1 q (e1.trans e1') hs1'⟩
/-- a comparison as a test -/
def tB (φ : PhiE) : PhiT := fun s R => φ s fun r s1 => match r with
  | .d (.bl b) => R b s1
  | _ => False
theorem tB_of {σ : L2.St} {H : Hp} {Q : Bool → Hp → Prop} (q : liftT X.K (tB φ) σ H Q) : liftE X.K φ σ H fun x H' => ∃ k, x = .bl k ∧ Q k H' := by
  obtain ⟨G, U, s, R, hs, hr, k⟩ := q
  refine ⟨G, U, s, _, hs, hr, fun r1 s1 G1 H1 v1 q1 e1 hs1 hv1 => ?_⟩
  cases r1 with
  | d d =>
    cases d with
    | bl b => cases hv1; exact ⟨b, rfl, k b s1 G1 H1 q1 e1 hs1⟩
    | _ => exact q1.elim
  | _ => exact q1.elim
theorem dt_cmp {op : CmpOp} {r : R2} {o : O2} (hr : OpR X (compareOp op) r) (hm : behindInMarks op e2 = false) (ho : OpS X.K r o) (h1 : PE X e1 (liftE X.K φ1)) (h2 : PE X e2 (liftE X.K φ2)) : PT X (.Compare e1 [op] [e2] pos) (liftT X.K (tB (eOp o φ1 φ2))) :=
  (pt_cmpR hr h1 h2 hm).imp fun σ H Q q => op_of ho (tB_of (φ := eOp o φ1 φ2) q)
def tAnd (a b : PhiT) : PhiT := fun s R => a s fun c s1 => if c = true then b s1 R else R false s1
def tOr (a b : PhiT) : PhiT := fun s R => a s fun c s1 => if c = true then R true s1 else b s1 R
def tNot (a : PhiT) : PhiT := fun s R => a s fun c s1 => R (!c) s1
theorem dw_and1 (h : PT X e (liftT X.K τ)) : PW X (.BoolOp .And [e] pos) (liftT X.K τ) := pw_and1 h
theorem dw_or1 (h : PT X e (liftT X.K τ)) : PW X (.BoolOp .Or [e] pos) (liftT X.K τ) := pw_or1 h
theorem dw_and {rest : List Expr} (h : PT X e (liftT X.K τ1)) (h2 : PW X (.BoolOp .And (e2 :: rest) pos) (liftT X.K τ2)) : PW X (.BoolOp .And (e :: e2 :: rest) pos) (liftT X.K (tAnd τ1 τ2)) :=
  (pw_and h h2).imp fun σ H Q ⟨G, U, s, R, hs, hr, k⟩ => by
    refine ⟨G, U, s, _, hs, hr, fun c s1 G1 H1 q1 e1 hs1 => ?_⟩
    cases c with
    | true => exact ⟨G1, U, s1, R, hs1, q1, fun b s' G' H' q e hs' => k b s' G' H' q (e1.trans e) hs'⟩
    | false => exact k false s1 G1 H1 q1 e1 hs1
theorem dw_or {rest : List Expr} (h : PT X e (liftT X.K τ1)) (h2 : PW X (.BoolOp .Or (e2 :: rest) pos) (liftT X.K τ2)) : PW X (.BoolOp .Or (e :: e2 :: rest) pos) (liftT X.K (tOr τ1 τ2)) :=
  (pw_or h h2).imp fun σ H Q ⟨G, U, s, R, hs, hr, k⟩ => by
    refine ⟨G, U, s, _, hs, hr, fun c s1 G1 H1 q1 e1 hs1 => ?_⟩
    cases c with
    | false => exact ⟨G1, U, s1, R, hs1, q1, fun b s' G' H' q e hs' => k b s' G' H' q (e1.trans e) hs'⟩
    | true => exact k true s1 G1 H1 q1 e1 hs1
theorem dt_not (h : PT X e (liftT X.K τ)) : PT X (.UnaryOp .Not e pos) (liftT X.K (tNot τ)) :=
  (pt_not h).imp fun σ H Q ⟨G, U, s, R, hs, hr, k⟩ => ⟨G, U, s, _, hs, hr, fun c s1 G1 H1 q1 e1 hs1 => k (!c) s1 G1 H1 q1 e1 hs1⟩
/-- .. as values that are True or False -/
def eAnd (a b : PhiE) : PhiE := fun s R => tB a s fun c s1 => if c = true then b s1 R else R (.d (.bl false)) s1
def eOr (a b : PhiE) : PhiE := fun s R => tB a s fun c s1 => if c = true then R (.d (.bl true)) s1 else b s1 R
def eNot (τ : PhiT) : PhiE := fun s R => τ s fun c s1 => R (.d (.bl !c)) s1
theorem tB_E {σ : L2.St} {H : Hp} {φ : PhiE} {s : S} {G U : Hp} {P : Bool → S → Prop} {Q : VK} (hs : St X.K G U H σ s) (h : tB φ s P) (k : ∀ c s1 G1 H1, P c s1 → Same G G1 → St X.K G1 U H1 σ s1 → Q (.bl c) H1) : liftE X.K φ σ H Q := by
  refine ⟨G, U, s, _, hs, h, fun r1 s1 G1 H1 v1 q1 e1 hs1 hv1 => ?_⟩
  cases r1 with
  | d d =>
    cases d with
    | bl b => cases hv1; exact k b s1 G1 H1 q1 e1 hs1
    | _ => exact q1.elim
  | _ => exact q1.elim
theorem de_one {op} (h : PE X e (liftE X.K φ)) : PE X (.BoolOp op [e] pos) (liftE X.K φ) := pe_one h
theorem de_and {rest : List Expr} (h : PE X e (liftE X.K φ1)) (h2 : PE X (.BoolOp .And (e2 :: rest) pos) (liftE X.K φ2)) : PE X (.BoolOp .And (e :: e2 :: rest) pos) (liftE X.K (eAnd φ1 φ2)) :=
  (pe_and h h2).imp fun σ H Q ⟨G, U, s, R, hs, hr, k⟩ => tB_E hs hr fun c s1 G1 H1 q1 e1 hs1 => ⟨c, rfl, by
    cases c with
    | true => exact ⟨G1, U, s1, R, hs1, q1, fun r s' G' H' v q e hs' => k r s' G' H' v q (e1.trans e) hs'⟩
    | false => exact k _ s1 G1 H1 _ q1 e1 hs1 rfl⟩
theorem de_or {rest : List Expr} (h : PE X e (liftE X.K φ1)) (h2 : PE X (.BoolOp .Or (e2 :: rest) pos) (liftE X.K φ2)) : PE X (.BoolOp .Or (e :: e2 :: rest) pos) (liftE X.K (eOr φ1 φ2)) :=
  (pe_or h h2).imp fun σ H Q ⟨G, U, s, R, hs, hr, k⟩ => tB_E hs hr fun c s1 G1 H1 q1 e1 hs1 => ⟨c, rfl, by
    cases c with
    | false => exact ⟨G1, U, s1, R, hs1, q1, fun r s' G' H' v q e hs' => k r s' G' H' v q (e1.trans e) hs'⟩
    | true => exact k _ s1 G1 H1 _ q1 e1 hs1 rfl⟩
theorem de_not (h : PE X e (liftE X.K φ)) : PE X (.UnaryOp .Not e pos) (liftE X.K (eNot (tB φ))) :=
  (pe_not h).imp fun σ H Q ⟨G, U, s, R, hs, hr, k⟩ => tB_E hs hr fun c s1 G1 H1 q1 e1 hs1 => ⟨c, rfl, k _ s1 G1 H1 _ q1 e1 hs1 rfl⟩
/-- a if t else b -/
def eIf (τ : PhiT) (a b : PhiE) : PhiE := fun s R => τ s fun c s1 => if c = true then a s1 R else b s1 R
theorem de_if {c : Expr} (hc : PT X c (liftT X.K τ)) (h1 : PE X e1 (liftE X.K φ1)) (h2 : PE X e2 (liftE X.K φ2)) : PE X (.IfExp c e1 e2 pos) (liftE X.K (eIf τ φ1 φ2)) :=
  (pe_ifExp hc h1 h2).imp fun σ H Q ⟨G, U, s, R, hs, hr, k⟩ => by
    refine ⟨G, U, s, _, hs, hr, fun c s1 G1 H1 q1 e1 hs1 => ?_⟩
    cases c with
    | true => exact ⟨G1, U, s1, R, hs1, q1, fun r s' G' H' v q e hs' => k r s' G' H' v q (e1.trans e) hs'⟩
    | false => exact ⟨G1, U, s1, R, hs1, q1, fun r s' G' H' v q e hs' => k r s' G' H' v q (e1.trans e) hs'⟩
end

/-! ### statements -/
section
variable {X : Cx} {e e1 e2 : Expr} {st : Stmt} {rest sts sts2 : List Stmt} {φ φ1 φ2 : PhiE} {τ : PhiT} {Φ Φ1 Φ2 : PhiS} {pos : Pos}
def sNil : PhiS := fun Δ s => Δ.nx s
def sSeq (a b : PhiS) : PhiS := fun Δ s => a { Δ with nx := b Δ } s
theorem ds_nil : PSs X [] (liftS X.K sNil) := pss_nil.imp fun E σ H ⟨G, U, s, Δ, hs, hr, k⟩ => k.nx s G H σ hr (Same.refl _) hs
theorem ds_one (h : PS X st (liftS X.K Φ)) : PSs X [st] (liftS X.K Φ) := pss_one h
theorem ds_cons (h : PS X st (liftS X.K Φ1)) (h2 : PSs X rest (liftS X.K Φ2)) : PSs X (st :: rest) (liftS X.K (sSeq Φ1 Φ2)) :=
  (pss_cons h h2).imp fun E σ H ⟨G, U, s, Δ, hs, hr, k⟩ => ⟨G, U, s, _, hs, hr, ⟨fun s' G' H' σ' q e hs' => ⟨G', U, s', Δ, hs', q, k.mono e⟩, k.bk, k.ct, k.rt⟩⟩
def sBreak : PhiS := fun Δ s => Δ.bk s
def sCont : PhiS := fun Δ s => Δ.ct s
theorem ds_pass : PS X (.Pass pos) (liftS X.K sNil) := ps_pass.imp fun E σ H ⟨G, U, s, Δ, hs, hr, k⟩ => k.nx s G H σ hr (Same.refl _) hs
theorem ds_break : PS X (.Break pos) (liftS X.K sBreak) := ps_break.imp fun E σ H ⟨G, U, s, Δ, hs, hr, k⟩ => k.bk s G H σ hr (Same.refl _) hs
theorem ds_cont : PS X (.Continue pos) (liftS X.K sCont) := ps_continue.imp fun E σ H ⟨G, U, s, Δ, hs, hr, k⟩ => k.ct s G H σ hr (Same.refl _) hs
/-- never come to -/
def sNever : PhiS := fun _ _ => False
theorem ds_never : PS X st (liftS X.K sNever) := ps_never.imp fun E σ H ⟨G, U, s, Δ, hs, hr, k⟩ => hr
def sDrop (φ : PhiE) : PhiS := fun Δ s => φ s fun _ s1 => Δ.nx s1
theorem ds_expr (h : PE X e (liftE X.K φ)) (hs : swapsWith e none pos.line X.env = pure false := by rfl) : PS X (.Expr e pos) (liftS X.K (sDrop φ)) :=
  (ps_expr h hs).imp fun E σ H ⟨G, U, s, Δ, hs, hr, k⟩ => ⟨G, U, s, _, hs, hr, fun r s' G' H' v q e hs' _ => k.nx s' G' H' σ q e hs'⟩
/-- return -/
def sRet (φ : PhiE) : PhiS := fun Δ s => φ s fun r s1 => match r with
  | .b i => Δ.rt (get s1.ρ i) s1.μ
  | r => Δ.rt r s1.μ
theorem ds_ret (h : PE X e (liftE X.K φ)) : PS X (.Return (some e) pos) (liftS X.K (sRet φ)) :=
  (ps_ret h).imp fun E σ H ⟨G, U, s, Δ, hs, hr, k⟩ => ⟨G, U, s, _, hs, hr, fun r s' G' H' v q e hs' hv => by
    have own : ∀ {r : Sl}, r.own = true → Δ.rt r s'.μ → RsOk X.K G' U H' σ s' v r → E.rt v H' := fun {r} ho q hv => by
      obtain ⟨p, e1, h1, h2, h3, h4, h5⟩ := (RsOk.own ho).mp hv
      exact k.rt _ _ G' H' v q e hs'.base ((Res.own ho).mpr ⟨p, e1, h1, h2, h3, h4⟩)
    cases r with
    | d d => exact k.rt _ _ G' H' v q e hs'.base hv
    | no => exact hv.elim
    | l ds => exact own rfl q hv
    | k ks ds => exact own rfl q hv
    | t ks ds => exact own rfl q hv
    | b i =>
      obtain ⟨ho, hv⟩ := hv
      obtain ⟨a, e1, oa, h1, h2, h3, h4⟩ := hs'.ownAt ho
      rw [hv] at e1
      injection e1 with e1
      injection e1 with e1
      exact k.rt _ _ G' H' v q e hs'.base ((Res.own ho).mpr ⟨a, e1, h1, h2, h3, h4⟩)⟩
def sRetN : PhiS := fun Δ s => Δ.rt (.d .non) s.μ
theorem ds_retN : PS X (.Return none pos) (liftS X.K sRetN) := ps_retN.imp fun E σ H ⟨G, U, s, Δ, hs, hr, k⟩ => k.rt _ _ G H _ hr (Same.refl _) hs.base rfl
def sIf (τ : PhiT) (a b : PhiS) : PhiS := fun Δ s => τ s fun c s1 => if c = true then a Δ s1 else b Δ s1
theorem ds_if (hc : PT X e (liftT X.K τ)) (h1 : PSs X sts (liftS X.K Φ1)) (h2 : PSs X sts2 (liftS X.K Φ2)) : PS X (.If e sts sts2 pos) (liftS X.K (sIf τ Φ1 Φ2)) :=
  (ps_if hc h1 h2).imp fun E σ H ⟨G, U, s, Δ, hs, hr, k⟩ => by
    refine ⟨G, U, s, _, hs, hr, fun c s1 G1 H1 q1 e1 hs1 => ?_⟩
    cases c with
    | true => exact ⟨G1, U, s1, Δ, hs1, q1, k.mono e1⟩
    | false => exact ⟨G1, U, s1, Δ, hs1, q1, k.mono e1⟩
/-- x = e: a list or dict that another slot owns is frozen; a new one becomes the slot's own -/
def st1 (i : Nat) (r : Sl) (s : S) (k : S → Prop) : Prop := match r with
  | .b j => fz (.b j) s fun d s2 => k (s2.set i (.d d))
  | r => k (s.set i r)
theorem st1_ok {K : PySem.W.Frag} {G U H : Hp} {σ : L2.St} {s : S} {v : V} {r : Sl} {i : Nat} {k : S → Prop} (hs : St K G U H σ s) (hv : RsOk K G U H σ s v r) (hk : st1 i r s k) : ∃ G' s', Same G G' ∧ St K G' U H (σ.set i (some v)) s' ∧ k s' := by
  have go : (∀ j, r ≠ .b j) → k (s.set i r) → ∃ G' s', Same G G' ∧ St K G' U H (σ.set i (some v)) s' ∧ k s' := fun hb hk => ⟨G, _, Same.refl _, hs.store hv hb, hk⟩
  cases r with
  | b j =>
    obtain ⟨G', e, h1, h2⟩ := frz_ok hs hv
    exact ⟨G', _, e, h1.setD h2, hk⟩
  | d d => exact go (fun j z => by cases z) hk
  | no => exact go (fun j z => by cases z) hk
  | l ds => exact go (fun j z => by cases z) hk
  | k ks ds => exact go (fun j z => by cases z) hk
  | t ks ds => exact go (fun j z => by cases z) hk
def sSet (i : Nat) (φ : PhiE) : PhiS := fun Δ s => φ s fun r s1 => st1 i r s1 Δ.nx
theorem ds_set {i : Nat} {x : Str} {pos' : Pos} (hN : X.N.Nodup) (hi : X.N[i]? = some x) (hx : Loc X.env.scope x) (h : PE X e (liftE X.K φ)) (hs : swapsWith e (some (.Name x pos')) pos.line X.env = pure false := by rfl)
    (hf : X.fn x = true ∨ X.env.scope.names.lookup x = some .local := by first | exact .inl rfl | exact .inr rfl | assumption) : PS X (.Assign [.Name x pos'] e pos) (liftS X.K (sSet i φ)) :=
  (ps_set (i := i) hN hi hx h hs hf).imp fun E σ H ⟨G, U, s, Δ, hs, hr, k⟩ => ⟨G, U, s, _, hs, hr, fun r s1 G1 H1 v q1 e1 hs1 hv1 => by
    obtain ⟨G', s', e', hs', q⟩ := st1_ok hs1 hv1 q1
    exact k.nx s' G' H1 _ q (e1.trans e') hs'⟩
/-- x op= e -/
def sAug (i : Nat) (o : O2) (φ : PhiE) : PhiS := fun Δ s => match get s.ρ i with
  | .d d0 => φ s fun r s1 => lk r s1 fun y => o d0 y fun r => st1 i r s1 Δ.nx
  | _ => False
def IpS (K : PySem.W.Frag) (r : TIp) (o : O2) : Prop := OpS K r o
theorem ds_aug {i : Nat} {x : Str} {op : Operator} {ti : TIp} {o : O2} {pos' : Pos} (hN : X.N.Nodup) (hi : X.N[i]? = some x) (hx : Loc X.env.scope x) (h : PE X e (liftE X.K φ)) (ho : PIp X op ti) (hs : OpS X.K ti o)
    (hf : X.fn x = true ∨ X.env.scope.names.lookup x = some .local := by first | exact .inl rfl | exact .inr rfl | assumption) : PS X (.AugAssign (.Name x pos') op e pos) (liftS X.K (sAug i o φ)) :=
  (ps_aug (i := i) hN hi hx h ho hf).imp fun E σ H ⟨G, U, s, Δ, hst, hr, k⟩ => by
    unfold sAug at hr
    cases e' : get s.ρ i with
    | d d0 =>
      rw [e'] at hr
      have hsl := hst.slot i
      rw [e'] at hsl
      obtain ⟨v0, h1, h2⟩ := hsl
      refine ⟨v0, of_join h1, G, U, s, _, hst, hr, fun r s1 G1 H1 v q1 e1 hs1 hv1 => ?_⟩
      obtain ⟨G1', e1', hs1', p1⟩ := pin_ok hs1 hv1
      rw [← pin_lk] at q1
      obtain ⟨y, ly, q1⟩ := lk_ok hs1' p1 q1
      refine hs G1' _ H1 s1.μ v0 v d0 y _ _ hs1'.out (.inl ((h2.mono e1).mono e1')) ly q1 (con_ok (R := fun r s1 => st1 i r s1 Δ.nx) hs1' (e1.trans e1') fun r s2 G2 H2 w q2 e2 hs2 hw => ?_)
      obtain ⟨G', s', e3, hs', q⟩ := st1_ok hs2 hw q2
      exact k.nx s' G' H2 _ q (e2.trans e3) hs'
    | _ => rw [e'] at hr; exact hr.elim
end

/-! ### targets -/
abbrev PhiG := D → S → (S → Prop) → Prop
abbrev PhiGs := List D → S → (S → Prop) → Prop
/-- slots but those at ws are as they were -/
def Only (ws : List Nat) (σ σ' : L2.St) : Prop := ∀ i, i ∉ ws → σ'[i]? = σ[i]?
theorem Only.refl {ws : List Nat} {σ : L2.St} : Only ws σ σ := fun _ _ => rfl
theorem Only.trans {ws us : List Nat} {σ σ1 σ2 : L2.St} (a : Only ws σ σ1) (b : Only us σ1 σ2) : Only (ws ++ us) σ σ2 := fun i h => by
  rw [List.mem_append] at h
  exact (b i fun z => h (.inr z)).trans (a i fun z => h (.inl z))
def liftG (K : PySem.W.Frag) (ws : List Nat) (γ : PhiG) : TG := fun v σ H Q => ∃ G U s d R, St K G U H σ s ∧ DV K G d v ∧ γ d s R ∧ ∀ s' σ' G' H', R s' → Same G G' → St K G' U H' σ' s' → Only ws σ σ' → Q σ' H'
def liftGs (K : PySem.W.Frag) (ws : List Nat) (γ : PhiGs) : TGs := fun vs σ H Q => ∃ G U s ds R, St K G U H σ s ∧ DVs K G ds vs ∧ γ ds s R ∧ ∀ s' σ' G' H', R s' → Same G G' → St K G' U H' σ' s' → Only ws σ σ' → Q σ' H'
theorem _root_.L2.PG.imp {X : Cx} {tg : Expr} {t t' : TG} (h : PG X tg t) (i : ∀ v σ H Q, t' v σ H Q → t v σ H Q) : PG X tg t' := ⟨fun pins s σ H v u Q I r q => h.run pins s σ H v u Q I r (i v σ H Q q)⟩
theorem _root_.L2.PGs.imp {X : Cx} {tg : List Expr} {t t' : TGs} (h : PGs X tg t) (i : ∀ v σ H Q, t' v σ H Q → t v σ H Q) : PGs X tg t' := ⟨fun pins s σ H v u Q I r q => h.run pins s σ H v u Q I r (i v σ H Q q)⟩
section
variable {X : Cx} {e : Expr} {es : List Expr} {γ : PhiG} {γs : PhiGs} {pos : Pos} {φ : PhiE} {ws us : List Nat}
def gN (i : Nat) : PhiG := fun d s R => R (s.set i (.d d))
theorem dg_n {i : Nat} {x : Str} (hN : X.N.Nodup) (hi : X.N[i]? = some x) (hx : Loc X.env.scope x) (hf : X.fn x = true ∨ X.env.scope.names.lookup x = some .local := by first | exact .inl rfl | exact .inr rfl | assumption) : PG X (.Name x pos) (liftG X.K [i] (gN i)) :=
  (pg_name (i := i) hN hi hx hf).imp fun v σ H Q ⟨G, U, s, d, R, hs, hd, hr, k⟩ => k _ _ G H hr (Same.refl _) (hs.setD hd) fun j hj => List.getElem?_set_ne (fun z => hj (by simp [z]))
def gsNil : PhiGs := fun ds s R => match ds with
  | [] => R s
  | _ => False
def gsCons (γ : PhiG) (γs : PhiGs) : PhiGs := fun ds s R => match ds with
  | d :: r => γ d s fun s1 => γs r s1 R
  | [] => False
theorem dgs_nil : PGs X [] (liftGs X.K [] gsNil) := pgs_nil.imp fun vs σ H Q ⟨G, U, s, ds, R, hs, hd, hr, k⟩ => by
  cases ds with
  | nil => exact ⟨hd, k s σ G H hr (Same.refl _) hs Only.refl⟩
  | cons d r => exact hr.elim
theorem dgs_cons (h1 : PG X e (liftG X.K ws γ)) (h2 : PGs X es (liftGs X.K us γs)) (hs : (assignEach (e :: es) X.env).map (·.2) = assign e X.env :: (assignEach es X.env).map (·.2) := by rfl) : PGs X (e :: es) (liftGs X.K (ws ++ us) (gsCons γ γs)) :=
  (pgs_cons h1 h2 hs).imp fun vs σ H Q ⟨G, U, s, ds, R, hs, hd, hr, k⟩ => by
    cases ds with
    | nil => exact hr.elim
    | cons d r =>
      obtain ⟨v, vr, e1, h3, h4⟩ := hd
      exact ⟨v, vr, e1, G, U, s, d, _, hs, h3, hr, fun s' σ' G' H' q e hs' o1 => ⟨G', U, s', r, R, hs', h4.mono e, q, fun s2 σ2 G2 H2 q2 e2 hs2 o2 => k s2 σ2 G2 H2 q2 (e.trans e2) hs2 (o1.trans o2)⟩⟩
def gT (n : Nat) (γs : PhiGs) : PhiG := fun d s R => match d with
  | .tup ds => if ds.length = n then γs ds s R else False
  | _ => False
theorem dg_t {k n : Nat} (hc : X.calm = true) (h : PGs X es (liftGs X.K ws γs)) (hn : (assignEach es X.env).length = n := by rfl) (hst : (assignEach es X.env).findIdx? (·.1) = none := by rfl) : PG X (.Tuple es k pos) (liftG X.K ws (gT n γs)) :=
  (pg_tup hc h hn hst).imp fun v σ H Q ⟨G, U, s, d, R, hs, hd, hr, k⟩ => by
    cases d with
    | tup ds =>
      obtain ⟨a, xs, e1, h1, h2⟩ := hd
      unfold gT at hr
      simp only at hr
      by_cases hl : ds.length = n
      · rw [if_pos hl] at hr
        exact ⟨a, xs, e1, SqT.of (hs.base.sub _ _ h1), h2.len.symm.trans hl, G, U, s, ds, R, hs, h2, hr, k⟩
      · rw [if_neg hl] at hr
        exact hr.elim
    | _ => exact hr.elim
/-- a, b = e -/
def sAsg (φ : PhiE) (γ : PhiG) : PhiS := fun Δ s => φ s fun r s1 => fz r s1 fun d s2 => γ d s2 Δ.nx
theorem ds_asg {tg : Expr} (he : PE X e (liftE X.K φ)) (hg : PG X tg (liftG X.K ws γ)) (hs : swapsWithSole [tg] e pos.line X.env = pure false := by rfl) (hw : swappedStores [tg] e X.env = pure none := by rfl)
    (h1 : (assignEach [tg] X.env).map (·.2) = [assign tg X.env] := by rfl) : PS X (.Assign [tg] e pos) (liftS X.K (sAsg φ γ)) :=
  (ps_asg he hg hs hw h1).imp fun E σ H ⟨G, U, s, Δ, hs, hr, k⟩ => ⟨G, U, s, _, hs, hr, fun r s1 G1 H1 v q1 e1 hs1 hv1 => by
    obtain ⟨G1', e1', hs1', d1⟩ := frz_ok hs1 hv1
    exact ⟨G1', U, _, _, Δ.nx, hs1', d1, q1, fun s' σ' G' H' q e hs' _ => k.nx s' G' H' σ' q ((e1.trans e1').trans e) hs'⟩⟩
end

/-! ### loops -/
/-- what is walked: the trees in their order -/
def forL (γ : PhiG) (Φ : PhiS) (Δ : DE) : List D → S → Prop
  | [], s => Δ.nx s
  | d :: ds, s => γ d s fun s1 => Φ { nx := forL γ Φ Δ ds, ct := forL γ Φ Δ ds, bk := Δ.nx, rt := Δ.rt } s1
/-- iterables: π gives the list of what comes -/
abbrev PhiI := S → (List D → S → Prop) → Prop
/-- an iterator that gives trees, whatever happens in between -/
structure Gives (K : PySem.W.Frag) (J : It) (G : Hp) (ds : List D) : Prop where
  go : ∀ i H G' U μ, i < ds.length → Same G G' → Base K G' U H μ → J.go i H
  yld : ∀ i H G' U μ x H', (h : i < ds.length) → Same G G' → Base K G' U H μ → J.yld i H x H' → ∃ G'', Same G' G'' ∧ DV K G'' ds[i] x ∧ ∀ (σ : L2.St) (s : S), s.μ = μ → St K G' U H σ s → St K G'' U H' σ s
  stop : ∀ H G' U μ, Same G G' → Base K G' U H μ → J.stop ds.length H
def liftI (K : PySem.W.Frag) (π : PhiI) : TI := fun σ H R => ∃ G U s P, St K G U H σ s ∧ π s P ∧ ∀ ds s' G' H' J, P ds s' → Same G G' → St K G' U H' σ s' → Gives K J G' ds → R J H'
theorem _root_.L2.PI.imp {X : Cx} {tg e : Expr} {t t' : TI} (h : PI X tg e t) (i : ∀ σ H R, t' σ H R → t σ H R) : PI X tg e t' := ⟨fun pins s σ H R I q => h.run pins s σ H R I (i σ H R q)⟩
def sFor (π : PhiI) (γ : PhiG) (Φ : PhiS) : PhiS := fun Δ s => π s fun ds s1 => forL γ Φ Δ ds s1
section
variable {X : Cx} {e tg : Expr} {γ : PhiG} {π : PhiI} {Φ : PhiS} {pos : Pos} {body : List Stmt} {φ : PhiE} {τ : PhiT} {ws : List Nat}
theorem ds_for (hp : PassesOwn (model X.prog X.w) X.A X.env X.xe) (hc : X.calm = true) (hi : PI X tg e (liftI X.K π)) (hg : PG X tg (liftG X.K ws γ)) (hb : PSs X body (liftS X.K Φ)) (hs : ∀ x, foldedSetIterable e X.env x = pure x := by intro _; rfl) :
    PS X (.For tg e body [] pos) (liftS X.K (sFor π γ Φ)) :=
  (ps_for hp hc hi hg hb hs).imp fun E σ H ⟨G, U, s, Δ, hs, hr, k⟩ => by
    refine ⟨G, U, s, _, hs, hr, fun ds s1 G1 H1 J q1 e1 hs1 gv => ?_⟩
    refine ⟨fun i m σ' H' => ∃ s' G', m = ds.length - i ∧ i ≤ ds.length ∧ Same G1 G' ∧ St X.K G' U H' σ' s' ∧ forL γ Φ Δ (ds.drop i) s', ⟨ds.length, s1, G1, by simp, Nat.zero_le _, Same.refl _, hs1, by simpa using q1⟩, ?_⟩
    rintro i m σ' H' ⟨s', G', rfl, hi', e', hs', q⟩
    by_cases hlt : i < ds.length
    · rw [List.drop_eq_getElem_cons hlt] at q
      refine .inr ⟨gv.go i H' G' U s'.μ hlt e' hs'.base, fun σ2 H2 => ∃ s2 G2, Same G1 G2 ∧ St X.K G2 U H2 σ2 s2 ∧ forL γ Φ Δ (ds.drop (i + 1)) s2, fun σ2 H2 ⟨s2, G2, e2, hs2, q2⟩ => ⟨ds.length - (i + 1), by omega, s2, G2, rfl, hlt, e2, hs2, q2⟩, fun x H2 y => ?_⟩
      obtain ⟨G2, e2, dv, st⟩ := gv.yld i H' G' U s'.μ x H2 hlt e' hs'.base y
      refine ⟨G2, U, s', ds[i], _, st σ' s' rfl hs', dv, q, fun s3 σ3 G3 H3 q3 e3 hs3 _ => ?_⟩
      have e13 : Same G1 G3 := (e'.trans e2).trans e3
      refine ⟨G3, U, s3, _, hs3, q3, ⟨fun s4 G4 H4 σ4 q4 e4 hs4 => ⟨s4, G4, e13.trans e4, hs4, q4⟩, fun s4 G4 H4 σ4 q4 e4 hs4 => k.nx s4 G4 H4 σ4 q4 ((e1.trans e13).trans e4) hs4, fun s4 G4 H4 σ4 q4 e4 hs4 => ⟨s4, G4, e13.trans e4, hs4, q4⟩, fun r μ' G4 H4 v q4 e4 b hv => k.rt r μ' G4 H4 v q4 ((e1.trans e13).trans e4) b hv⟩⟩
    · have : i = ds.length := by omega
      subst this
      rw [List.drop_length] at q
      exact .inl ⟨gv.stop H' G' U s'.μ e' hs'.base, k.nx s' G' H' σ' q (e1.trans e') hs'⟩
/-- while -/
def whN (τ : PhiT) (Φ : PhiS) (Δ : DE) : Nat → S → Prop
  | 0, _ => False
  | n + 1, s => τ s fun b s1 => if b = true then Φ { nx := whN τ Φ Δ n, ct := whN τ Φ Δ n, bk := Δ.nx, rt := Δ.rt } s1 else Δ.nx s1
def sWhile (τ : PhiT) (Φ : PhiS) : PhiS := fun Δ s => ∃ n, whN τ Φ Δ n s
theorem ds_while (hp : PassesOwn (model X.prog X.w) X.A X.env X.xe) (hc : PT X e (liftT X.K τ)) (hb : PSs X body (liftS X.K Φ)) : PS X (.While e body [] pos) (liftS X.K (sWhile τ Φ)) :=
  (ps_while hp hc hb).imp fun E σ H ⟨G, U, s, Δ, hs, ⟨n, hr⟩, k⟩ => by
    refine ⟨fun m σ' H' => ∃ s' G', Same G G' ∧ St X.K G' U H' σ' s' ∧ whN τ Φ Δ m s', ⟨n, s, G, Same.refl _, hs, hr⟩, ?_⟩
    rintro m σ' H' ⟨s', G', e', hs', q⟩
    cases m with
    | zero => exact q.elim
    | succ m =>
      refine ⟨G', U, s', _, hs', q, fun b s1 G1 H1 q1 e1 hs1 => ?_⟩
      cases b with
      | true =>
        refine ⟨fun σ2 H2 => ∃ s2 G2, Same G G2 ∧ St X.K G2 U H2 σ2 s2 ∧ whN τ Φ Δ m s2, fun σ2 H2 ⟨s2, G2, e2, hs2, q2⟩ => ⟨m, Nat.lt_succ_self _, s2, G2, e2, hs2, q2⟩, G1, U, s1, _, hs1, q1, ?_⟩
        have eg := e'.trans e1
        exact ⟨fun s4 G4 H4 σ4 q4 e4 hs4 => ⟨s4, G4, eg.trans e4, hs4, q4⟩, fun s4 G4 H4 σ4 q4 e4 hs4 => k.nx s4 G4 H4 σ4 q4 (eg.trans e4) hs4, fun s4 G4 H4 σ4 q4 e4 hs4 => ⟨s4, G4, eg.trans e4, hs4, q4⟩, fun r μ' G4 H4 v q4 e4 b hv => k.rt r μ' G4 H4 v q4 (eg.trans e4) b hv⟩
      | false => exact k.nx s1 G1 H1 _ q1 (e'.trans e1) hs1
end
end DL
/-! DL4: what is walked, calls of defs, a def's promise, displays, comprehensions. -/
namespace DL
open PySem PySem.Spec PyProof.Rows L2

/-! ### iterables -/
def iSeq (K : PySem.W.Frag) (tl : TE) : TI := fun σ H R => tl σ H fun x H1 => (∃ a, x = .ref a ∧ (∃ xs, SqL K H1 a xs) ∧ R (Itl K a) H1) ∨ (∃ a, x = .ref a ∧ (∃ xs, SqT K H1 a xs) ∧ R (Itt K a) H1) ∨ ∃ z, x = .str z ∧ R (Its z) H1
theorem pi_seq {X : Cx} {tg l : Expr} {tl : TE} (hl : PE X l tl) : PI X tg l (iSeq X.K tl) := by
  refine ⟨fun pins s σ H R I h => ?_⟩
  refine thn (hl.run pins s σ H _ I h) fun v s1 ⟨x, H1, I1, r1, q1⟩ => ?_
  rcases q1 with ⟨a, e, ⟨xs, hq⟩, q⟩ | ⟨a, e, ⟨xs, hq⟩, q⟩ | ⟨z, e, q⟩
  · subst e
    cases r1
    obtain ⟨its, rv, p, hz⟩ := I1.list hq
    refine wpAny_pyIter_list p.isList ?_
    refine ⟨s1.heap.objs.size, [s1.heap.objs.size], _, _, H1, rfl, I1.kept (t' := s1.toks) fun b o e => Heap.get?_push_of_some _ e, turn_list a _, ⟨_, Heap.get?_push_size _ rfl, rfl, rfl⟩, fun b hb => ?_, q⟩
    have e : b = s1.heap.objs.size := by simpa using hb
    subst e
    exact I1.fpOk (Nat.le_refl _) (I1.hok.fresh (Nat.le_refl _))
  · subst e
    cases r1
    obtain ⟨its, rv, p, hz⟩ := I1.tuple hq
    refine wpAny_pyIter_tuple (show s1.heap.IsTuple a its.toArray from p) ?_
    refine ⟨s1.heap.objs.size, [s1.heap.objs.size], _, _, H1, rfl, I1.kept (t' := s1.toks) fun b o e => Heap.get?_push_of_some _ e, turn_tuple a _, ⟨_, Heap.get?_push_size _ rfl, rfl, rfl⟩, fun b hb => ?_, q⟩
    have e : b = s1.heap.objs.size := by simpa using hb
    subst e
    exact I1.fpOk (Nat.le_refl _) (I1.hok.fresh (Nat.le_refl _))
  · subst e
    obtain ⟨t, rfl⟩ := r1
    cases ha : z.cps.all (· < 128)
    · exact wpAny_pyIter_wide ha (pi_one (tk := s1.toks) I1 _ (turn_str _ z t "str_iterator" (.inr rfl)) ⟨_, Heap.get?_push_size _ rfl, rfl, rfl⟩ q)
    · exact wpAny_pyIter_ascii ha (pi_one (tk := s1.toks) I1 _ (turn_str _ z t "str_ascii_iterator" (.inl rfl)) ⟨_, Heap.get?_push_size _ rfl, rfl, rfl⟩ q)
/-- the trees of what is walked -/
def itemsOf : D → (List D → Prop) → Prop
  | .tup ds, k => k ds
  | .tpl ds, k => k ds
  | .lst ds, k => k ds
  | .str x, k => k (x.cps.toList.map fun c => .str ⟨#[c]⟩)
  | _, _ => False
def rng (lo : Int) (n : Nat) : List D := (List.range n).map fun i : Nat => D.int (lo + (i : Int))
def iE (φ : PhiE) : PhiI := fun s P => φ s fun r s1 => fz r s1 fun d s2 => itemsOf d fun ds => P ds s2
section
variable {K : PySem.W.Frag} {G U H : Hp} {ds : List D} {xs : List V} {a : Addr}
theorem gives_list (h : SqL K G a xs) (hd : DVs K G ds xs) : Gives K (Itl K a) G ds := by
  refine ⟨fun i H G' U μ hi e b => ?_, fun i H G' U μ x H' hi e b y => ?_, fun H G' U μ e b => ?_⟩
  · have hi' : i < xs.length := hd.len ▸ hi
    exact ⟨xs, xs[i], b.sub.seq (e.seq h), List.getElem?_eq_getElem hi'⟩
  · obtain ⟨rfl, y⟩ := y
    obtain ⟨v, hv, dv⟩ := hd.get (List.getElem?_eq_getElem hi)
    have := (y xs (b.sub.seq (e.seq h))).symm.trans hv
    injection this with this
    subst this
    exact ⟨G', Same.refl _, dv.mono e, fun σ s hμ hs => hs⟩
  · exact ⟨xs, b.sub.seq (e.seq h), by rw [hd.len]; exact Nat.le_refl _⟩
theorem gives_tup (h : SqT K G a xs) (hd : DVs K G ds xs) : Gives K (Itt K a) G ds := by
  refine ⟨fun i H G' U μ hi e b => ?_, fun i H G' U μ x H' hi e b y => ?_, fun H G' U μ e b => ?_⟩
  · have hi' : i < xs.length := hd.len ▸ hi
    exact ⟨xs, xs[i], same_t b.sub (same_t e h), List.getElem?_eq_getElem hi'⟩
  · obtain ⟨rfl, y⟩ := y
    obtain ⟨v, hv, dv⟩ := hd.get (List.getElem?_eq_getElem hi)
    have := (y xs (same_t b.sub (same_t e h))).symm.trans hv
    injection this with this
    subst this
    exact ⟨G', Same.refl _, dv.mono e, fun σ s hμ hs => hs⟩
  · exact ⟨xs, same_t b.sub (same_t e h), by rw [hd.len]; exact Nat.le_refl _⟩
theorem gives_str {z : Str} : Gives K (Its z) G (z.cps.toList.map fun c => .str ⟨#[c]⟩) := by
  refine ⟨fun i H G' U μ hi e b => ?_, fun i H G' U μ x H' hi e b y => ?_, fun H G' U μ e b => ?_⟩
  · show i < z.cps.size
    simpa using hi
  · obtain ⟨rfl, c, hc, y⟩ := y
    subst y
    refine ⟨G', Same.refl _, ?_, fun σ s hμ hs => hs⟩
    have hi' : i < z.cps.size := by simpa using hi
    have e1 : z.cps[i] = c := by
      rw [Array.getElem?_eq_getElem hi'] at hc
      exact Option.some.inj hc
    rw [List.getElem_map]
    show V.str ⟨#[c]⟩ = V.str ⟨#[z.cps.toList[i]]⟩
    rw [Array.getElem_toList, e1]
  · show z.cps.size ≤ _
    simp
theorem gives_rng {lo : Int} {n : Nat} : Gives K (Itr lo n) G (rng lo n) := by
  refine ⟨fun i H G' U μ hi e b => ?_, fun i H G' U μ x H' hi e b y => ?_, fun H G' U μ e b => ?_⟩
  · show i < n
    simpa [rng] using hi
  · obtain ⟨rfl, y⟩ := y
    subst y
    refine ⟨G', Same.refl _, ?_, fun σ s hμ hs => hs⟩
    have e2 : (rng lo n)[i] = .int (lo + (i : Int)) := by simp [rng]
    rw [e2]
    rfl
  · show n ≤ _
    simp [rng]
end
section
variable {X : Cx} {e tg : Expr} {φ φ1 φ2 : PhiE} {pos p : Pos}
theorem di_e (h : PE X e (liftE X.K φ)) : PI X tg e (liftI X.K (iE φ)) :=
  (pi_seq h).imp fun σ H R ⟨G, U, s, P, hs, hr, k⟩ => ⟨G, U, s, _, hs, hr, fun r s1 G1 H1 v q1 e1 hs1 hv1 => by
    obtain ⟨G1', e1', hs1', d1⟩ := frz_ok hs1 hv1
    have q1 : itemsOf (frz s1 r).1 fun ds => P ds (frz s1 r).2 := q1
    generalize (frz s1 r).1 = d at q1 d1
    cases d with
    | tup ds =>
      obtain ⟨a, xs, hv, h1, h2⟩ := d1
      exact .inr (.inl ⟨a, hv, ⟨xs, SqT.of (hs1'.base.sub _ _ h1)⟩, k ds _ G1' H1 _ q1 (e1.trans e1') hs1' (gives_tup (SqT.of h1) h2)⟩)
    | tpl ds =>
      obtain ⟨a, xs, hv, h1, h2⟩ := d1
      exact .inr (.inl ⟨a, hv, ⟨xs, same_t hs1'.base.sub h1⟩, k ds _ G1' H1 _ q1 (e1.trans e1') hs1' (gives_tup h1 h2)⟩)
    | lst ds =>
      obtain ⟨a, xs, hv, h1, h2⟩ := d1
      exact .inl ⟨a, hv, ⟨xs, hs1'.base.sub.seq h1⟩, k ds _ G1' H1 _ q1 (e1.trans e1') hs1' (gives_list h1 h2)⟩
    | str z => exact .inr (.inr ⟨z, d1, k _ _ G1' H1 _ q1 (e1.trans e1') hs1' gives_str⟩)
    | _ => exact q1.elim⟩
/-- range(n), range(a, b) -/
def iR1 (ψ : PhiA) : PhiI := fun s P => ψ s fun ds s1 => match ds with
  | [.int j] => (-(2 ^ 62) ≤ j ∧ j < 2 ^ 62) ∧ P (rng 0 j.toNat) s1
  | _ => False
def iR2 (ψ : PhiA) : PhiI := fun s P => ψ s fun ds s1 => match ds with
  | [.int i, .int j] => (-(2 ^ 62) ≤ i ∧ i < 2 ^ 62 ∧ -(2 ^ 62) ≤ j ∧ j < 2 ^ 62) ∧ P (rng i (j - i).toNat) s1
  | _ => False
theorem DVs.int1 {K : PySem.W.Frag} {G : Hp} {i : Int} {vs : List V} (h : DVs K G [.int i] vs) : vs = [.int i] := by
  obtain ⟨x, r, e, h1, h2⟩ := h
  have h1 : x = .int i := h1
  have h2 : r = [] := h2
  rw [e, h1, h2]
theorem DVs.int2 {K : PySem.W.Frag} {G : Hp} {i j : Int} {vs : List V} (h : DVs K G [.int i, .int j] vs) : vs = [.int i, .int j] := by
  obtain ⟨x, r, e, h1, h2⟩ := h
  have h1 : x = .int i := h1
  rw [e, h1, DVs.int1 h2]
theorem di_r1 {a : Expr} {ψ : PhiA} (hg : Gl X "range") (hm : X.mg "range" = none) (ha : PA X [a] (liftA X.K ψ)) (hs : starEach [a] X.env = [(false, eval a X.env)] := by rfl) : PI X tg (.Call (.Name "range" p) [a] [] pos) (liftI X.K (iR1 ψ)) :=
  (pi_range1 hg hm ha hs).imp fun σ H R ⟨G, U, s, P, hs, hr, k⟩ => ⟨G, U, s, _, hs, hr, fun ds s1 G1 H1 vs q1 e1 hs1 dv => by
    split at q1
    · rename_i j
      exact ⟨j, dv.int1, q1.1.1, q1.1.2, k _ s1 G1 H1 _ q1.2 e1 hs1 gives_rng⟩
    · exact q1.elim⟩
theorem di_r2 {a b : Expr} {ψ : PhiA} (hg : Gl X "range") (hm : X.mg "range" = none) (ha : PA X [a, b] (liftA X.K ψ)) (hs : starEach [a, b] X.env = [(false, eval a X.env), (false, eval b X.env)] := by rfl) (hs2 : starEach [b] X.env = [(false, eval b X.env)] := by rfl) : PI X tg (.Call (.Name "range" p) [a, b] [] pos) (liftI X.K (iR2 ψ)) :=
  (pi_range2 hg hm ha hs hs2).imp fun σ H R ⟨G, U, s, P, hs, hr, k⟩ => ⟨G, U, s, _, hs, hr, fun ds s1 G1 H1 vs q1 e1 hs1 dv => by
    split at q1
    · rename_i i j
      exact ⟨i, j, dv.int2, q1.1, k _ s1 G1 H1 _ q1.2 e1 hs1 gives_rng⟩
    · exact q1.elim⟩
end

/-! ### displays -/
section
variable {X : Cx} {es : List Expr} {ψ : PhiA} {pos : Pos}
theorem DVs.sz {K : PySem.W.Frag} {G : Hp} {ds : List D} {vs : List V} (h : DVs K G ds vs) (hl : ds.length ≤ sizeLine) : vs.length ≤ sizeLine := h.len ▸ hl
/-- a new object, its parts trees -/
theorem St.new {K : PySem.W.Frag} {G U H : Hp} {σ : L2.St} {s : S} {p : Addr} {o : HO} (h : St K G U H σ s) (hp : H p = none) : St K G U (upd H p o) σ s ∧ G p = none ∧ U p = none ∧ s.μ p = none ∧ ∀ i, ¬ OwnAt σ s.ρ i p := by
  have hG : G p = none := h.base.sub.free hp
  have hU : U p = none := h.base.usub.free hp
  have hM : s.μ p = none := by
    cases e : s.μ p with
    | none => rfl
    | some o =>
      obtain ⟨z, q⟩ := (h.base.mu p o e).2.there
      rw [hp] at q
      cases q
  have hO : ∀ i, ¬ OwnAt σ s.ρ i p := fun i hi => by
    obtain ⟨o, q⟩ := (h.own_facts hi).2.2.2.there
    rw [hp] at q
    cases q
  refine ⟨⟨⟨fun b u e => ?_, fun b u e => ?_, h.base.ug, fun b u e => ?_, h.base.bx⟩, h.len, fun i => ?_, h.dis⟩, hG, hU, hM, hO⟩
  · rw [upd_ne (ne_of_none e hG)]
    exact h.base.sub b u e
  · rw [upd_ne (ne_of_none e hU)]
    exact h.base.usub b u e
  · obtain ⟨h1, h2⟩ := h.base.mu b u e
    refine ⟨h1, h2.mono (Same.refl _) ?_⟩
    rw [upd_ne]
    intro z
    rw [z, hM] at e
    cases e
  · cases hx : (get s.ρ i).own with
    | true =>
      obtain ⟨a, e1, oa, h1, h2, h3, h4⟩ := h.ownAt hx
      refine .ofOwn ⟨a, join_of e1, h1, h2, h3, h4.mono (Same.refl _) ?_⟩
      rw [upd_ne]
      intro z
      rw [z] at oa
      exact hO i oa
    | false =>
      have hs := h.slot i
      cases e' : get s.ρ i with
      | no => exact trivial
      | d d => rw [e'] at hs; exact hs
      | b j => rw [e'] at hs; exact hs.elim
      | l ds => rw [e'] at hx; cases hx
      | k ks ds => rw [e'] at hx; cases hx
      | t ks ds => rw [e'] at hx; cases hx
theorem St.newD {K : PySem.W.Frag} {G U H : Hp} {σ : L2.St} {s : S} {p : Addr} {o : HO} (h : St K G U H σ s) (hp : H p = none) : Same G (upd G p o) ∧ St K (upd G p o) U (upd H p o) σ s := by
  obtain ⟨h1, h2, h3, h4, h5⟩ := h.new (o := o) hp
  exact ⟨same_new h2, h1.freeze upd_same h2 h3 h4 h5⟩
def eTup (ψ : PhiA) : PhiE := fun s R => ψ s fun ds s1 => ds.length ≤ sizeLine ∧ R (.d (.tup ds)) s1
theorem de_tup {k} (h : PA X es (liftA X.K ψ)) : PE X (.Tuple es k pos) (liftE X.K (eTup ψ)) :=
  (pe_tup h).imp fun σ H Q ⟨G, U, s, R, hs, hr, k⟩ => ⟨G, U, s, _, hs, hr, fun ds s1 G1 H1 vs q1 e1 hs1 dv => ⟨dv.sz q1.1, fun p hp => by
    obtain ⟨e2, hs2⟩ := hs1.newD (o := .tup vs) hp
    exact k _ s1 _ _ _ q1.2 (e1.trans e2) hs2 ⟨p, vs, rfl, upd_same, dv.mono e2⟩⟩⟩
def eLst (ψ : PhiA) : PhiE := fun s R => ψ s fun ds s1 => ds.length ≤ sizeLine ∧ R (.l ds) s1
theorem de_lst (h : PA X es (liftA X.K ψ)) : PE X (.List es pos) (liftE X.K (eLst ψ)) :=
  (pe_lst h).imp fun σ H Q ⟨G, U, s, R, hs, hr, k⟩ => ⟨G, U, s, _, hs, hr, fun ds s1 G1 H1 vs q1 e1 hs1 dv => ⟨dv.sz q1.1, fun p hp => by
    obtain ⟨h1, h2, h3, h4, h5⟩ := hs1.new (o := .lst vs) hp
    exact k _ s1 G1 _ _ q1.2 e1 h1 ⟨p, rfl, h2, h3, h4, ⟨vs, upd_same, dv⟩, h5⟩⟩⟩
end

/-! ### a def's promise, a call -/
abbrev FD := List D → Mu → (Sl → Mu → Prop) → Prop
def spD (K : PySem.W.Frag) (n : Nat) (F : FD) : Sp := fun vs H Q _ => ∃ G U ds μ R, Base K G U H μ ∧ DVs K G ds vs ∧ ds.length = n ∧ F ds μ R ∧ ∀ r v μ' G' H', R r μ' → Same G G' → Base K G' U H' μ' → Res K G' U H' μ' v r → Q v H'
theorem spD_len {K : PySem.W.Frag} {n : Nat} {F : FD} {vs : List V} {H : Hp} {Q : VK} {E : XK} (h : spD K n F vs H Q E) : vs.length = n := by
  obtain ⟨G, U, ds, μ, R, hb, hd, hl, _⟩ := h
  exact hd.len.symm.trans hl
/-- the frame at the entry -/
def ρ0 (m : Nat) (ds : List D) : List Sl := ds.map Sl.d ++ List.replicate (m - ds.length) .no
/-- what a body does, as a promise -/
def body (m : Nat) (Φ : PhiS) : FD := fun ds μ R => Φ { nx := fun s => R (.d .non) s.μ, rt := R } ⟨ρ0 m ds, μ⟩
theorem get_app_l : ∀ {l m : List Sl} {i : Nat}, i < l.length → get (l ++ m) i = get l i
  | x :: r, m, 0, h => rfl
  | x :: r, m, n + 1, h => get_app_l (l := r) (by simpa using h)
theorem get_app_r : ∀ {l m : List Sl} {i : Nat}, l.length ≤ i → get (l ++ m) i = get m (i - l.length)
  | [], m, i, h => rfl
  | x :: r, m, 0, h => by simp at h
  | x :: r, m, n + 1, h => by
    show get (r ++ m) n = get m (n + 1 - (r.length + 1))
    rw [get_app_r (l := r) (by simpa using h)]
    congr 1
    omega
theorem get_rep : ∀ {n i : Nat}, get (List.replicate n .no) i = .no
  | 0, _ => rfl
  | n + 1, 0 => rfl
  | n + 1, i + 1 => get_rep (n := n) (i := i)
theorem get_map : ∀ {ds : List D} {i : Nat} {d : D}, ds[i]? = some d → get (ds.map Sl.d) i = .d d
  | [], _, _, h => by simp at h
  | x :: r, 0, d, h => by
    have h : x = d := Option.some.inj h
    rw [h]
    rfl
  | x :: r, n + 1, d, h => get_map (ds := r) (i := n) (by simpa using h)
theorem start_st {K : PySem.W.Frag} {G U H : Hp} {N : List Str} {vs : List V} {ds : List D} {μ : Mu} (b : Base K G U H μ) (h : DVs K G ds vs) (hl : ds.length ≤ N.length) : St K G U H (L2.start N vs) ⟨ρ0 N.length ds, μ⟩ := by
  have hlen := h.len
  have no : ∀ i, (get (ρ0 N.length ds) i).own = false := fun i => by
    unfold ρ0
    by_cases hi : i < ds.length
    · rw [get_app_l (by simpa using hi), get_map (List.getElem?_eq_getElem hi)]
      rfl
    · rw [get_app_r (by simpa using hi), get_rep]
      rfl
  refine ⟨b, ?_, fun i => ?_, fun i j a _ q1 _ => ?_⟩
  · show (ρ0 N.length ds).length = _
    unfold ρ0 L2.start
    simp
    omega
  · show SlOk K G U H μ _ (get (ρ0 N.length ds) i)
    unfold ρ0 L2.start
    by_cases hi : i < ds.length
    · rw [get_app_l (by simpa using hi), get_map (List.getElem?_eq_getElem hi)]
      obtain ⟨v, hv, dv⟩ := h.get (List.getElem?_eq_getElem hi)
      refine ⟨v, ?_, dv⟩
      rw [List.getElem?_append_left (by rw [List.length_map, ← hlen]; exact hi), List.getElem?_map, hv]
      rfl
    · rw [get_app_r (by simpa using hi), get_rep]
      exact trivial
  · have : (get (ρ0 N.length ds) i).own = true := q1.1
    rw [no i] at this
    cases this
section
variable {P : Program} {w : World} {K : PySem.W.Frag} {mg : Str → Option Value} {base : Heap}
/-- THE RULE for a def: its body's function over trees is its promise -/
theorem fn_ok {x qual : Str} {st : Stmt} {f : Addr} {fd : FuncData} {N ps : List Str} {k : Nat} {Φ : PhiS} (F : Fun K x qual st f fd) (S : FnScope N ps (defScope st))
    (hbody : ∀ (cdv : Value) (A : Around) (outer : List Env) (s : Shared) (H : Hp), Room k (A.deeper (envOfC qual (defScope st) s.heap.objs.size f cdv)) →
      PSs (cxOf CX0 P w K mg base N qual (defScope st) f cdv A outer s H E0).nox (defBody st) (liftS K Φ)) : FnOk P w K mg base CX0 (k + 1) f fd ps (spD K ps.length (body N.length Φ)) := by
  refine F.ok S (fun vs H Q E h => spD_len h) fun cdv A outer s H vs Q E hr hsp => ⟨_, hbody cdv A outer s H hr, ?_⟩
  obtain ⟨G, U, ds, μ, R, hb, hd, hl, hF, k⟩ := hsp
  have hle : ps.length ≤ N.length := by
    have := S.pre
    have := congrArg List.length this
    rw [List.length_take] at this
    omega
  refine ⟨G, U, _, _, start_st hb hd (by omega), hF, ⟨fun s' G' H' σ' q e hs' => k _ _ _ G' H' q e hs'.base rfl, fun s' G' H' σ' q => False.elim q, fun s' G' H' σ' q => False.elim q, fun r μ' G' H' v q e b hv => k r v μ' G' H' q e b hv⟩⟩
/-- a weaker promise -/
theorem fn_imp {f : Addr} {fd : FuncData} {ps : List Str} {k n : Nat} {F F' : FD} (h : FnOk P w K mg base CX0 k f fd ps (spD K n F)) (i : ∀ ds μ R, ds.length = n → F' ds μ R → F ds μ R) : FnOk P w K mg base CX0 k f fd ps (spD K n F') :=
  h.imp fun vs H Q E ⟨G, U, ds, μ, R, hb, hd, hl, hF, k⟩ => ⟨G, U, ds, μ, R, hb, hd, hl, i ds μ R hl hF, k⟩
end
section
variable {X : Cx} {k n : Nat} {f : Addr} {fd : FuncData} {ps : List Str} {F : FD} {x : Str} {p pos : Pos} {e : Expr} {es : List Expr} {ψ : PhiA} {ds0 : List D} {dvs : List V} {us : List Value}
/-- f(..), the defaults behind -/
def eCall (F : FD) (ds0 : List D) (ψ : PhiA) : PhiE := fun s R => ψ s fun ds s1 => (F (ds ++ ds0) s1.μ fun r μ' => R r ⟨s1.ρ, μ'⟩)
def lenA (n : Nat) (ψ : PhiA) : PhiA := fun s R => ψ s fun ds s1 => ds.length = n ∧ R ds s1
theorem call_of {σ : L2.St} {H : Hp} {Q : VK} (hv : ∀ G, DVs X.K G ds0 dvs) (hn : ∀ ds μ R, F ds μ R → ds.length = n) (q : liftE X.K (eCall F ds0 ψ) σ H Q) : tCall (spD X.K n F) dvs E0 (liftA X.K ψ) σ H Q := by
  obtain ⟨G, U, s, R, hs, hr, k⟩ := q
  refine ⟨G, U, s, _, hs, hr, fun ds s1 G1 H1 vs q1 e1 hs1 dv => ⟨G1, _, ds ++ ds0, s1.μ, _, hs1.out, dv.app (hv G1), hn _ _ _ q1, q1, fun r v μ' G' H' q e b hv' => ?_⟩⟩
  exact k r _ G' H' v q (e1.trans e) (hs1.back e b) (hv'.rs (ρ := s1.ρ) hs1)
/-- the promise told with its number of arguments -/
def fdn (n : Nat) (F : FD) : FD := fun ds μ R => ds.length = n ∧ F ds μ R
theorem spD_n {K : PySem.W.Frag} : spD K n (fdn n F) = spD K n F := by
  funext vs H Q E
  refine propext ⟨fun ⟨G, U, ds, μ, R, a, b, c, d, e⟩ => ⟨G, U, ds, μ, R, a, b, c, d.2, e⟩, fun ⟨G, U, ds, μ, R, a, b, c, d, e⟩ => ⟨G, U, ds, μ, R, a, b, c, ⟨c, d⟩, e⟩⟩
theorem de_call (Fk : FnOk X.prog X.w X.K X.mg X.base CX0 k f fd ps (spD X.K n F)) (hr : Room k X.A) (hg : Gl X x) (hm : X.mg x = some (.ref f)) (hk : PySem.W.keepIn X.K (.ref f) = true) (hb : Binds X.K fd ps us) (hd : Vals dvs us) (hv : ∀ G, DVs X.K G ds0 dvs)
    (ha : PA X (e :: es) (liftA X.K ψ)) (hdb : (x == ("__debug__" : Str)) = false := by decide) (he : starEach (e :: es) X.env = (false, eval e X.env) :: starEach es X.env := by rfl) (hpl : (backTo pos (starEach es X.env)).any (·.1) = false := by rfl) :
    PE X (.Call (.Name x p) (e :: es) [] pos) (liftE X.K (eCall (fdn n F) ds0 ψ)) :=
  L2.PE.imp (t := tCall (spD X.K n (fdn n F)) dvs E0 (liftA X.K ψ)) (pe_call (by rw [spD_n]; exact Fk) hr hg hm hk hb hd pass0 ha hdb he hpl) fun σ H Q q => call_of hv (fun _ _ _ h => h.1) q
theorem de_call0 (Fk : FnOk X.prog X.w X.K X.mg X.base CX0 k f fd ps (spD X.K n F)) (hr : Room k X.A) (hg : Gl X x) (hm : X.mg x = some (.ref f)) (hk : PySem.W.keepIn X.K (.ref f) = true) (hb : Binds X.K fd ps us) (hd : Vals dvs us) (hv : ∀ G, DVs X.K G ds0 dvs)
    (hdb : (x == ("__debug__" : Str)) = false := by decide) :
    PE X (.Call (.Name x p) [] [] pos) (liftE X.K (eCall (fdn n F) ds0 aNil)) :=
  L2.PE.imp (t := tCall (spD X.K n (fdn n F)) dvs E0 L2.tNil) (pe_call0 (by rw [spD_n]; exact Fk) hr hg hm hk hb hd pass0 hdb) fun σ H Q ⟨G, U, s, R, hs, hr, k⟩ => ⟨G, _, [] ++ ds0, s.μ, _, hs.out, hv G, hr.1, hr, fun r v μ' G' H' q e b hv' => k r _ G' H' v q e (hs.back e b) (hv'.rs (ρ := s.ρ) hs)⟩
/-- a built-in, its arguments frozen; one argument looked at -/
def eCB (o : OA) (ψ : PhiA) : PhiE := fun s R => ψ s fun ds s1 => o ds fun r => R r s1
theorem cb_of {r : List V → Hp → VK → Prop} {o : OA} (ho : CallS X.K r o) {σ : L2.St} {H : Hp} {Q : VK} (q : liftE X.K (eCB o ψ) σ H Q) : tCB r (liftA X.K ψ) σ H Q := by
  obtain ⟨G, U, s, R, hs, hr, k⟩ := q
  exact ⟨G, U, s, _, hs, hr, fun ds s1 G1 H1 vs q1 e1 hs1 dv => ho G1 _ H1 s1.μ vs ds _ Q hs1.out dv q1 (con_ok hs1 e1 k)⟩
theorem de_cb {id : String} {r : List V → Hp → VK → Prop} {o : OA} (hc : CallR X (.builtin id) r) (ho : CallS X.K r o) (hg : Gl X x) (hm : X.mg x = none) (hv : bootBuiltins x = some (.builtin id)) (ha : PA X (e :: es) (liftA X.K ψ)) (hn : x ≠ "__name__" := by decide) (hdb : (x == ("__debug__" : Str)) = false := by decide)
    (he : starEach (e :: es) X.env = (false, eval e X.env) :: starEach es X.env := by rfl) (hpl : (backTo pos (starEach es X.env)).any (·.1) = false := by rfl) : PE X (.Call (.Name x p) (e :: es) [] pos) (liftE X.K (eCB o ψ)) :=
  (pe_callB hc hg hm hv ha hn hdb he hpl).imp fun σ H Q q => cb_of ho q
theorem de_cty {T : String} {r : List V → Hp → VK → Prop} {o : OA} (hc : CallR X (.type T) r) (ho : CallS X.K r o) (hg : Gl X x) (hm : X.mg x = none) (hv : bootBuiltins x = some (.type T)) (ha : PA X (e :: es) (liftA X.K ψ)) (hn : x ≠ "__name__" := by decide) (hdb : (x == ("__debug__" : Str)) = false := by decide)
    (he : starEach (e :: es) X.env = (false, eval e X.env) :: starEach es X.env := by rfl) (hpl : (backTo pos (starEach es X.env)).any (·.1) = false := by rfl) : PE X (.Call (.Name x p) (e :: es) [] pos) (liftE X.K (eCB o ψ)) :=
  (pe_callTy hc hg hm hv ha hn hdb he hpl).imp fun σ H Q q => cb_of ho q
/-- one argument, looked at -/
def eC1 (o : O1) (φ : PhiE) : PhiE := eUn o φ
theorem one_of {r : List V → Hp → VK → Prop} {o : O1} (ho : Call1S X.K r o) {φ : PhiE} {σ : L2.St} {H : Hp} {Q : VK} (q : liftE X.K (eUn o φ) σ H Q) : tCB r (tCons (liftE X.K φ) tNil) σ H Q := by
  have := un_of (X := X) (r := fun x H Q => r [x] H Q) (o := o) (φ := φ) (fun G U H μ x dx R Q b l h c => ho G U H μ x dx R Q b l h c) q
  exact this
theorem de_c1 {id : String} {φ : PhiE} {r : List V → Hp → VK → Prop} {o : O1} (hc : CallR X (.builtin id) r) (ho : Call1S X.K r o) (hg : Gl X x) (hm : X.mg x = none) (hv : bootBuiltins x = some (.builtin id)) (ha : PE X e (liftE X.K φ)) (hn : x ≠ "__name__" := by decide) (hdb : (x == ("__debug__" : Str)) = false := by decide)
    (he : starEach [e] X.env = [(false, eval e X.env)] := by rfl) : PE X (.Call (.Name x p) [e] [] pos) (liftE X.K (eUn o φ)) :=
  (pe_callB hc hg hm hv (pa_cons ha pa_nil he) hn hdb he rfl).imp fun σ H Q q => one_of ho q
theorem de_c1t {T : String} {φ : PhiE} {r : List V → Hp → VK → Prop} {o : O1} (hc : CallR X (.type T) r) (ho : Call1S X.K r o) (hg : Gl X x) (hm : X.mg x = none) (hv : bootBuiltins x = some (.type T)) (ha : PE X e (liftE X.K φ)) (hn : x ≠ "__name__" := by decide) (hdb : (x == ("__debug__" : Str)) = false := by decide)
    (he : starEach [e] X.env = [(false, eval e X.env)] := by rfl) : PE X (.Call (.Name x p) [e] [] pos) (liftE X.K (eUn o φ)) :=
  (pe_callTy hc hg hm hv (pa_cons ha pa_nil he) hn hdb he rfl).imp fun σ H Q q => one_of ho q
end
end DL
/-! DL5: operators over trees. -/
namespace DL
open PySem PySem.Spec PyProof.Rows L2

/-! ### trees as data of the library -/
mutual
def D.py : D → PyData
  | .non => .none
  | .bl b => .bool b
  | .int i => .int i
  | .str x => .str x
  | .tup ds => .tuple (D.pys ds)
  | .lst ds => .list (D.pys ds)
  | _ => .none
def D.pys : List D → List PyData
  | [] => []
  | d :: r => d.py :: D.pys r
end
mutual
/-- a datum of ints, texts, None, True, False, tuples and lists -/
def D.ok : D → Bool
  | .non => true
  | .bl _ => true
  | .int _ => true
  | .str _ => true
  | .tup ds => D.oks ds
  | .lst ds => D.oks ds
  | _ => false
def D.oks : List D → Bool
  | [] => true
  | d :: r => d.ok && D.oks r
end
mutual
def D.dep : D → Nat
  | .tup ds => D.deps ds + 1
  | .lst ds => D.deps ds + 1
  | _ => 0
def D.deps : List D → Nat
  | [] => 0
  | d :: r => max d.dep (D.deps r)
end
mutual
/-- == -/
def D.eq : D → D → Bool
  | .non, .non => true
  | .bl a, .bl b => a == b
  | .bl a, .int j => (if a then 1 else 0) == j
  | .int i, .bl b => i == (if b then 1 else 0)
  | .int i, .int j => i == j
  | .str x, .str y => x == y
  | .tup xs, .tup ys => D.eqs xs ys
  | .lst xs, .lst ys => D.eqs xs ys
  | _, _ => false
def D.eqs : List D → List D → Bool
  | [], [] => true
  | x :: xs, y :: ys => D.eq x y && D.eqs xs ys
  | _, _ => false
end
mutual
/-- < of alike data -/
def D.lt : D → D → Bool
  | .bl a, .bl b => !a && b
  | .int i, .int j => decide (i < j)
  | .str x, .str y => decide (x.cps.toList < y.cps.toList)
  | .tup xs, .tup ys => D.lts xs ys
  | .lst xs, .lst ys => D.lts xs ys
  | _, _ => false
def D.lts : List D → List D → Bool
  | [], [] => false
  | [], _ :: _ => true
  | _ :: _, [] => false
  | x :: xs, y :: ys => if D.eq x y then D.lts xs ys else D.lt x y
end
mutual
def D.alike : D → D → Bool
  | .non, .non => true
  | .bl _, .bl _ => true
  | .int _, .int _ => true
  | .str _, .str _ => true
  | .tup xs, .tup ys => D.alikes xs ys
  | .lst xs, .lst ys => D.alikes xs ys
  | _, _ => false
def D.alikes : List D → List D → Bool
  | x :: xs, y :: ys => D.alike x y && D.alikes xs ys
  | [], _ => true
  | _ :: _, [] => true
end
open PySem.W in
mutual
theorem py_alike : ∀ x y : D, D.alike x y = true → alike x.py y.py = true
  | .non, .non, _ => rfl
  | .bl _, .bl _, _ => rfl
  | .int _, .int _, _ => rfl
  | .str _, .str _, _ => rfl
  | .tup xs, .tup ys, h => by
    show alike (.tuple _) (.tuple _) = true
    rw [alike]
    exact py_alikes xs ys h
  | .lst xs, .lst ys, h => by
    show alike (.list _) (.list _) = true
    rw [alike]
    exact py_alikes xs ys h
  | .non, .bl _, h | .non, .int _, h | .non, .str _, h | .non, .tup _, h | .non, .lst _, h | .non, .ty _, h | .non, .ref _, h | .non, .dic _ _, h | .non, .dit _ _, h | .non, .tpl _, h | .non, .dlr, h | .non, .mch _, h => by cases h
  | .bl _, .non, h | .bl _, .int _, h | .bl _, .str _, h | .bl _, .tup _, h | .bl _, .lst _, h | .bl _, .ty _, h | .bl _, .ref _, h | .bl _, .dic _ _, h | .bl _, .dit _ _, h | .bl _, .tpl _, h | .bl _, .dlr, h | .bl _, .mch _, h => by cases h
  | .int _, .non, h | .int _, .bl _, h | .int _, .str _, h | .int _, .tup _, h | .int _, .lst _, h | .int _, .ty _, h | .int _, .ref _, h | .int _, .dic _ _, h | .int _, .dit _ _, h | .int _, .tpl _, h | .int _, .dlr, h | .int _, .mch _, h => by cases h
  | .str _, .non, h | .str _, .bl _, h | .str _, .int _, h | .str _, .tup _, h | .str _, .lst _, h | .str _, .ty _, h | .str _, .ref _, h | .str _, .dic _ _, h | .str _, .dit _ _, h | .str _, .tpl _, h | .str _, .dlr, h | .str _, .mch _, h => by cases h
  | .tup _, .non, h | .tup _, .bl _, h | .tup _, .int _, h | .tup _, .str _, h | .tup _, .lst _, h | .tup _, .ty _, h | .tup _, .ref _, h | .tup _, .dic _ _, h | .tup _, .dit _ _, h | .tup _, .tpl _, h | .tup _, .dlr, h | .tup _, .mch _, h => by cases h
  | .lst _, .non, h | .lst _, .bl _, h | .lst _, .int _, h | .lst _, .str _, h | .lst _, .tup _, h | .lst _, .ty _, h | .lst _, .ref _, h | .lst _, .dic _ _, h | .lst _, .dit _ _, h | .lst _, .tpl _, h | .lst _, .dlr, h | .lst _, .mch _, h => by cases h
  | .ty _, _, h => by unfold D.alike at h; cases h
  | .ref _, _, h => by unfold D.alike at h; cases h
  | .dic _ _, _, h => by unfold D.alike at h; cases h
  | .dit _ _, _, h => by unfold D.alike at h; cases h
  | .tpl _, _, h => by unfold D.alike at h; cases h
  | .dlr, _, h => by unfold D.alike at h; cases h
  | .mch _, _, h => by unfold D.alike at h; cases h
theorem py_alikes : ∀ xs ys : List D, D.alikes xs ys = true → alikeAll (D.pys xs) (D.pys ys) = true
  | [], ys, _ => by
    show alikeAll [] _ = true
    rw [alikeAll]
  | x :: xs, [], _ => by
    show alikeAll (_ :: _) [] = true
    rw [alikeAll]
  | x :: xs, y :: ys, h => by
    unfold D.alikes at h
    rw [Bool.and_eq_true] at h
    show alikeAll (x.py :: D.pys xs) (y.py :: D.pys ys) = true
    rw [alikeAll, Bool.and_eq_true]
    exact ⟨py_alike x y h.1, py_alikes xs ys h.2⟩
end
mutual
theorem py_dep : ∀ d : D, d.py.depth ≤ d.dep
  | .non => Nat.zero_le _
  | .bl _ => Nat.zero_le _
  | .int _ => Nat.zero_le _
  | .str _ => Nat.zero_le _
  | .ty _ => Nat.zero_le _
  | .ref _ => Nat.zero_le _
  | .dic _ _ => Nat.zero_le _
  | .dit _ _ => Nat.zero_le _
  | .tpl _ => Nat.zero_le _
  | .dlr => Nat.zero_le _
  | .mch _ => Nat.zero_le _
  | .tup ds => by
    show (PyData.tuple (D.pys ds)).depth ≤ D.deps ds + 1
    rw [PyData.depth]
    have := py_deps ds
    omega
  | .lst ds => by
    show (PyData.list (D.pys ds)).depth ≤ D.deps ds + 1
    rw [PyData.depth]
    have := py_deps ds
    omega
theorem py_deps : ∀ ds : List D, PyData.depthAll (D.pys ds) ≤ D.deps ds
  | [] => Nat.zero_le _
  | d :: r => by
    show PyData.depthAll (d.py :: D.pys r) ≤ max d.dep (D.deps r)
    rw [PyData.depthAll]
    have := py_dep d
    have := py_deps r
    omega
end
mutual
theorem py_plain : ∀ d : D, d.py.plain = true
  | .non => rfl
  | .bl _ => rfl
  | .int _ => rfl
  | .str _ => rfl
  | .ty _ => rfl
  | .ref _ => rfl
  | .dic _ _ => rfl
  | .dit _ _ => rfl
  | .tpl _ => rfl
  | .dlr => rfl
  | .mch _ => rfl
  | .tup ds => by
    show (PyData.tuple (D.pys ds)).plain = true
    rw [PyData.plain]
    exact py_plains ds
  | .lst ds => by
    show (PyData.list (D.pys ds)).plain = true
    rw [PyData.plain]
    exact py_plains ds
theorem py_plains : ∀ ds : List D, PyData.plainAll (D.pys ds) = true
  | [] => rfl
  | d :: r => by
    show PyData.plainAll (d.py :: D.pys r) = true
    rw [PyData.plainAll, py_plain d, py_plains r]
    rfl
end
mutual
theorem py_eq : ∀ x y : D, x.ok = true → y.ok = true → PyData.eqv x.py y.py = D.eq x y
  | .non, y, _, hy => by cases y <;> first | rfl | cases hy
  | .bl _, y, _, hy => by cases y <;> first | rfl | cases hy
  | .int _, y, _, hy => by cases y <;> first | rfl | cases hy
  | .str _, y, _, hy => by cases y <;> first | rfl | cases hy
  | .tup xs, .tup ys, hx, hy => by
    show PyData.eqv (.tuple _) (.tuple _) = _
    rw [PyData.eqv]
    exact py_eqs xs ys hx hy
  | .lst xs, .lst ys, hx, hy => by
    show PyData.eqv (.list _) (.list _) = _
    rw [PyData.eqv]
    exact py_eqs xs ys hx hy
  | .tup xs, .non, _, _ | .tup xs, .bl _, _, _ | .tup xs, .int _, _, _ | .tup xs, .str _, _, _ | .tup xs, .lst _, _, _ => rfl
  | .lst xs, .non, _, _ | .lst xs, .bl _, _, _ | .lst xs, .int _, _, _ | .lst xs, .str _, _, _ | .lst xs, .tup _, _, _ => rfl
  | .tup xs, .ty _, _, h | .tup xs, .ref _, _, h | .tup xs, .dic _ _, _, h | .tup xs, .dit _ _, _, h | .tup xs, .tpl _, _, h | .tup xs, .dlr, _, h | .tup xs, .mch _, _, h => by cases h
  | .lst xs, .ty _, _, h | .lst xs, .ref _, _, h | .lst xs, .dic _ _, _, h | .lst xs, .dit _ _, _, h | .lst xs, .tpl _, _, h | .lst xs, .dlr, _, h | .lst xs, .mch _, _, h => by cases h
  | .ty _, _, h, _ => by cases h
  | .ref _, _, h, _ => by cases h
  | .dic _ _, _, h, _ => by cases h
  | .dit _ _, _, h, _ => by cases h
  | .tpl _, _, h, _ => by cases h
  | .dlr, _, h, _ => by cases h
  | .mch _, _, h, _ => by cases h
theorem py_eqs : ∀ xs ys : List D, D.oks xs = true → D.oks ys = true → PyData.eqvAll (D.pys xs) (D.pys ys) = D.eqs xs ys
  | [], [], _, _ => rfl
  | [], _ :: _, _, _ => rfl
  | _ :: _, [], _, _ => rfl
  | x :: xs, y :: ys, hx, hy => by
    unfold D.oks at hx hy
    rw [Bool.and_eq_true] at hx hy
    show PyData.eqvAll (x.py :: D.pys xs) (y.py :: D.pys ys) = (D.eq x y && D.eqs xs ys)
    rw [PyData.eqvAll, py_eq x y hx.1 hy.1, py_eqs xs ys hx.2 hy.2]
end
mutual
theorem dv_dp {K : PySem.W.Frag} {G : Hp} : ∀ {d : D} {v : V}, d.ok = true → DV K G d v → Dp K G v d.py
  | .non, _, _, h => by cases h; exact .non
  | .bl _, _, _, h => by cases h; exact .bl _
  | .int _, _, _, h => by cases h; exact .int _
  | .str _, _, _, h => by cases h; exact .str _
  | .tup _, _, o, ⟨a, xs, h1, h2, h3⟩ => by subst h1; exact .tup (SqT.of h2) (dvs_dp o h3)
  | .lst _, _, o, ⟨a, xs, h1, h2, h3⟩ => by subst h1; exact .lst h2 (dvs_dp o h3)
  | .ty _, _, h, _ => by cases h
  | .ref _, _, h, _ => by cases h
  | .dic _ _, _, h, _ => by cases h
  | .dit _ _, _, h, _ => by cases h
  | .tpl _, _, h, _ => by cases h
  | .dlr, _, h, _ => by cases h
  | .mch _, _, h, _ => by cases h
theorem dvs_dp {K : PySem.W.Frag} {G : Hp} : ∀ {ds : List D} {vs : List V}, D.oks ds = true → DVs K G ds vs → DpAll K G vs (D.pys ds)
  | [], _, _, h => by have h : _ = [] := h; subst h; exact .nil
  | d :: r, _, o, ⟨x, vr, h1, h2, h3⟩ => by
    subst h1
    unfold D.oks at o
    rw [Bool.and_eq_true] at o
    exact .cons (dv_dp o.1 h2) (dvs_dp o.2 h3)
end
mutual
theorem dp_same {K : PySem.W.Frag} {H H' : Hp} (e : Same H H') : ∀ {v : V} {d : PyData}, Dp K H v d → Dp K H' v d
  | _, _, .non => .non
  | _, _, .bl b => .bl b
  | _, _, .int b => .int b
  | _, _, .str b => .str b
  | _, _, .lst h a => .lst (e.seq h) (dps_same e a)
  | _, _, .tup h a => .tup (same_t e h) (dps_same e a)
theorem dps_same {K : PySem.W.Frag} {H H' : Hp} (e : Same H H') : ∀ {v : List V} {d : List PyData}, DpAll K H v d → DpAll K H' v d
  | _, _, .nil => .nil
  | _, _, .cons h a => .cons (dp_same e h) (dps_same e a)
end
theorem Lk.dp {K : PySem.W.Frag} {G U H : Hp} {μ : Mu} {d : D} {v : V} (b : Base K G U H μ) (o : d.ok = true) (h : Lk K G H d v) : Dp K H v d.py := by
  rcases h with h | ⟨p, x, hv, hh, hd⟩
  · exact dp_same b.sub (dv_dp o h)
  · subst hd hv
    cases x with
    | l ds =>
      obtain ⟨xs, h1, h2⟩ := hh
      exact .lst (SqL.of h1) (dps_same b.sub (dvs_dp o h2))
    | k ks ds => cases o
    | t ks ds => cases o
    | no => exact hh.elim
    | d d => exact hh.elim
    | b i => exact hh.elim
end DL
/-! DL6: operators over trees: arithmetic, comparisons, subscripts, in, len, isinstance. -/
namespace DL
open PySem PySem.Spec PyProof.Rows L2

theorem strlt_irrefl (l : List Nat) : ¬ l < l := List.lt_irrefl l
open PySem.W in
mutual
theorem py_lt : ∀ x y : D, x.ok = true → y.ok = true → D.alike x y = true → x ≠ .non → dataLt x.py y.py = D.lt x y
  | .non, _, _, _, _, h => absurd rfl h
  | .bl a, .bl b, _, _, _, _ => by
    show dataLt (.bool a) (.bool b) = (!a && b)
    rw [dataLt_bool]
    cases a <;> cases b <;> rfl
  | .int a, .int b, _, _, _, _ => dataLt_int a b
  | .str a, .str b, _, _, _, _ => dataLt_str a b
  | .tup xs, .tup ys, hx, hy, h, _ => by
    show dataLt (.tuple _) (.tuple _) = D.lts xs ys
    rw [dataLt_tuple]
    exact py_lts xs ys hx hy h
  | .lst xs, .lst ys, hx, hy, h, _ => by
    show dataLt (.list _) (.list _) = D.lts xs ys
    rw [dataLt_list]
    exact py_lts xs ys hx hy h
  | .bl _, .non, _, _, h, _ | .bl _, .int _, _, _, h, _ | .bl _, .str _, _, _, h, _ | .bl _, .tup _, _, _, h, _ | .bl _, .lst _, _, _, h, _ | .bl _, .ty _, _, _, h, _ | .bl _, .ref _, _, _, h, _ | .bl _, .dic _ _, _, _, h, _ | .bl _, .dit _ _, _, _, h, _ | .bl _, .tpl _, _, _, h, _ | .bl _, .dlr, _, _, h, _ | .bl _, .mch _, _, _, h, _ => by cases h
  | .int _, .non, _, _, h, _ | .int _, .bl _, _, _, h, _ | .int _, .str _, _, _, h, _ | .int _, .tup _, _, _, h, _ | .int _, .lst _, _, _, h, _ | .int _, .ty _, _, _, h, _ | .int _, .ref _, _, _, h, _ | .int _, .dic _ _, _, _, h, _ | .int _, .dit _ _, _, _, h, _ | .int _, .tpl _, _, _, h, _ | .int _, .dlr, _, _, h, _ | .int _, .mch _, _, _, h, _ => by cases h
  | .str _, .non, _, _, h, _ | .str _, .bl _, _, _, h, _ | .str _, .int _, _, _, h, _ | .str _, .tup _, _, _, h, _ | .str _, .lst _, _, _, h, _ | .str _, .ty _, _, _, h, _ | .str _, .ref _, _, _, h, _ | .str _, .dic _ _, _, _, h, _ | .str _, .dit _ _, _, _, h, _ | .str _, .tpl _, _, _, h, _ | .str _, .dlr, _, _, h, _ | .str _, .mch _, _, _, h, _ => by cases h
  | .tup _, .non, _, _, h, _ | .tup _, .bl _, _, _, h, _ | .tup _, .int _, _, _, h, _ | .tup _, .str _, _, _, h, _ | .tup _, .lst _, _, _, h, _ | .tup _, .ty _, _, _, h, _ | .tup _, .ref _, _, _, h, _ | .tup _, .dic _ _, _, _, h, _ | .tup _, .dit _ _, _, _, h, _ | .tup _, .tpl _, _, _, h, _ | .tup _, .dlr, _, _, h, _ | .tup _, .mch _, _, _, h, _ => by cases h
  | .lst _, .non, _, _, h, _ | .lst _, .bl _, _, _, h, _ | .lst _, .int _, _, _, h, _ | .lst _, .str _, _, _, h, _ | .lst _, .tup _, _, _, h, _ | .lst _, .ty _, _, _, h, _ | .lst _, .ref _, _, _, h, _ | .lst _, .dic _ _, _, _, h, _ | .lst _, .dit _ _, _, _, h, _ | .lst _, .tpl _, _, _, h, _ | .lst _, .dlr, _, _, h, _ | .lst _, .mch _, _, _, h, _ => by cases h
  | .ty _, _, h, _, _, _ => by cases h
  | .ref _, _, h, _, _, _ => by cases h
  | .dic _ _, _, h, _, _, _ => by cases h
  | .dit _ _, _, h, _, _, _ => by cases h
  | .tpl _, _, h, _, _, _ => by cases h
  | .dlr, _, h, _, _, _ => by cases h
  | .mch _, _, h, _, _, _ => by cases h
theorem py_lts : ∀ xs ys : List D, D.oks xs = true → D.oks ys = true → D.alikes xs ys = true → PyProof.Rows.lexLt itemOrd (keyToksAll (D.pys xs)) (keyToksAll (D.pys ys)) = D.lts xs ys
  | [], [], _, _, _ => by
    show PyProof.Rows.lexLt itemOrd (keyToksAll []) (keyToksAll []) = false
    rw [keyToksAll]
    exact lex_irrefl _
  | [], y :: ys, _, _, _ => by
    show PyProof.Rows.lexLt itemOrd (keyToksAll []) (keyToksAll (y.py :: D.pys ys)) = true
    have e := dataLt_list [] (y.py :: D.pys ys)
    rw [← e]
    unfold dataLt
    rw [keyToks, keyToks, keyToksAll, keyToksAll]
    rfl
  | x :: xs, [], _, _, _ => by
    show PyProof.Rows.lexLt itemOrd (keyToksAll (x.py :: D.pys xs)) (keyToksAll []) = false
    rw [keyToksAll, keyToksAll]
    rfl
  | x :: xs, y :: ys, hx, hy, h => by
    unfold D.oks at hx hy
    unfold D.alikes at h
    rw [Bool.and_eq_true] at hx hy h
    show PyProof.Rows.lexLt itemOrd (keyToksAll (x.py :: D.pys xs)) (keyToksAll (y.py :: D.pys ys)) = if D.eq x y then D.lts xs ys else D.lt x y
    rw [dataLt_cons (py_alike x y h.1), py_eq x y hx.1 hy.1, py_lts xs ys hx.2 hy.2 h.2]
    by_cases e : D.eq x y = true
    · rw [if_pos e, if_pos e]
    · rw [if_neg e, if_neg e]
      refine py_lt x y hx.1 hy.1 h.1 fun z => ?_
      subst z
      cases y with
      | non => exact e rfl
      | _ => cases h.1
end

/-! ### data, by values -/
def rDat (K : PySem.W.Frag) (C : PyData → PyData → Prop) (g : PyData → PyData → Bool) : R2 := fun x y H Q => ∃ d e, Dp K H x d ∧ Dp K H y e ∧ C d e ∧ Q (.bl (g d e)) H
def CEq (d e : PyData) : Prop := d.plain = true ∧ e.plain = true ∧ min d.depth e.depth ≤ 50
def COrd (d e : PyData) : Prop := PySem.W.alike d e = true ∧ d ≠ .none ∧ min d.depth e.depth ≤ 50
section
variable {X : Cx}
theorem opr_eq (hu : X.A.units + 64 < cLine) : OpR X (compareOp .Eq) (rDat X.K CEq PyData.eqv) := by
  intro pins s σ H x y v u Q I rx ry h
  obtain ⟨d, e, hd, he, ⟨c1, c2, c3⟩, q⟩ := h
  obtain ⟨as, r1⟩ := Dp.reads I d x v hd rx
  obtain ⟨bs, r2⟩ := Dp.reads I e y u he ry
  exact PySem.SeqAt.eq_plain r1 r2 c1 c2 (by omega) ⟨.bl _, H, I, rfl, q⟩
theorem opr_ne (hu : X.A.units + 64 < cLine) : OpR X (compareOp .NotEq) (rDat X.K CEq fun d e => !PyData.eqv d e) := by
  intro pins s σ H x y v u Q I rx ry h
  obtain ⟨d, e, hd, he, ⟨c1, c2, c3⟩, q⟩ := h
  obtain ⟨as, r1⟩ := Dp.reads I d x v hd rx
  obtain ⟨bs, r2⟩ := Dp.reads I e y u he ry
  exact PySem.SeqAt.ne_plain r1 r2 c1 c2 (by omega) ⟨.bl _, H, I, rfl, q⟩
theorem opr_lt (hu : X.A.units + 64 < cLine) : OpR X (compareOp .Lt) (rDat X.K COrd PySem.W.dataLt) := by
  intro pins s σ H x y v u Q I rx ry h
  obtain ⟨d, e, hd, he, ⟨c1, c2, c3⟩, q⟩ := h
  obtain ⟨as, r1⟩ := Dp.reads I d x v hd rx
  obtain ⟨bs, r2⟩ := Dp.reads I e y u he ry
  exact PySem.W.lt_data r1 r2 c1 c2 (by omega) ⟨.bl _, H, I, rfl, q⟩
theorem opr_gt (hu : X.A.units + 64 < cLine) : OpR X (compareOp .Gt) (rDat X.K COrd fun d e => PySem.W.dataLt e d) := by
  intro pins s σ H x y v u Q I rx ry h
  obtain ⟨d, e, hd, he, ⟨c1, c2, c3⟩, q⟩ := h
  obtain ⟨as, r1⟩ := Dp.reads I d x v hd rx
  obtain ⟨bs, r2⟩ := Dp.reads I e y u he ry
  exact PySem.W.gt_data r1 r2 c1 c2 (by omega) ⟨.bl _, H, I, rfl, q⟩
theorem opr_le (hu : X.A.units + 64 < cLine) : OpR X (compareOp .LtE) (rDat X.K COrd fun d e => !PySem.W.dataLt e d) := by
  intro pins s σ H x y v u Q I rx ry h
  obtain ⟨d, e, hd, he, ⟨c1, c2, c3⟩, q⟩ := h
  obtain ⟨as, r1⟩ := Dp.reads I d x v hd rx
  obtain ⟨bs, r2⟩ := Dp.reads I e y u he ry
  exact PySem.W.le_data r1 r2 c1 c2 (by omega) ⟨.bl _, H, I, rfl, q⟩
theorem opr_ge (hu : X.A.units + 64 < cLine) : OpR X (compareOp .GtE) (rDat X.K COrd fun d e => !PySem.W.dataLt d e) := by
  intro pins s σ H x y v u Q I rx ry h
  obtain ⟨d, e, hd, he, ⟨c1, c2, c3⟩, q⟩ := h
  obtain ⟨as, r1⟩ := Dp.reads I d x v hd rx
  obtain ⟨bs, r2⟩ := Dp.reads I e y u he ry
  exact PySem.W.ge_data r1 r2 c1 c2 (by omega) ⟨.bl _, H, I, rfl, q⟩
end

/-! ### the operators over trees -/
section
variable {K : PySem.W.Frag}
/-- what is asked of deep data; nothing of flat ones -/
def cEq : D → D → Prop
  | .int _, .int _ => True
  | .str _, .str _ => True
  | .non, .non => True
  | .bl _, .bl _ => True
  | .non, .int _ => True
  | .int _, .non => True
  | .non, .str _ => True
  | .str _, .non => True
  | x, y => (x.ok = true ∧ y.ok = true) ∧ min x.dep y.dep ≤ 50
def cOrd : D → D → Prop
  | .int _, .int _ => True
  | .str _, .str _ => True
  | x, y => ((x.ok = true ∧ y.ok = true) ∧ x ≠ .non ∧ D.alike x y = true) ∧ min x.dep y.dep ≤ 50
theorem cEq_ok {x y : D} (h : cEq x y) : (x.ok = true ∧ y.ok = true) ∧ min x.dep y.dep ≤ 50 := by
  unfold cEq at h
  split at h <;> first | exact h | exact ⟨⟨rfl, rfl⟩, by show min 0 0 ≤ 50; decide⟩
theorem cOrd_ok {x y : D} (h : cOrd x y) : ((x.ok = true ∧ y.ok = true) ∧ x ≠ .non ∧ D.alike x y = true) ∧ min x.dep y.dep ≤ 50 := by
  unfold cOrd at h
  split at h
  · exact ⟨⟨⟨rfl, rfl⟩, (fun z => by cases z), rfl⟩, by show min 0 0 ≤ 50; decide⟩
  · exact ⟨⟨⟨rfl, rfl⟩, (fun z => by cases z), rfl⟩, by show min 0 0 ≤ 50; decide⟩
  · exact h
def oEq : O2 := fun x y R => cEq x y ∧ R (.d (.bl (D.eq x y)))
def oNe : O2 := fun x y R => cEq x y ∧ R (.d (.bl (!D.eq x y)))
def oLt : O2 := fun x y R => cOrd x y ∧ R (.d (.bl (D.lt x y)))
def oGt : O2 := fun x y R => cOrd y x ∧ R (.d (.bl (D.lt y x)))
def oLe : O2 := fun x y R => cOrd y x ∧ R (.d (.bl (!D.lt y x)))
def oGe : O2 := fun x y R => cOrd x y ∧ R (.d (.bl (!D.lt x y)))
theorem Con.bl {G U H : Hp} {μ : Mu} {R : Sl → Prop} {Q : VK} {b : Bool} (k : Con K G U μ R Q) (hb : Base K G U H μ) (h : R (.d (.bl b))) : Q (.bl b) H := k _ _ G H h (Same.refl _) hb rfl
theorem Con.int {G U H : Hp} {μ : Mu} {R : Sl → Prop} {Q : VK} {b : Int} (k : Con K G U μ R Q) (hb : Base K G U H μ) (h : R (.d (.int b))) : Q (.int b) H := k _ _ G H h (Same.refl _) hb rfl
theorem Con.str {G U H : Hp} {μ : Mu} {R : Sl → Prop} {Q : VK} {b : Str} (k : Con K G U μ R Q) (hb : Base K G U H μ) (h : R (.d (.str b))) : Q (.str b) H := k _ _ G H h (Same.refl _) hb rfl
theorem Con.dv {G U H : Hp} {μ : Mu} {R : Sl → Prop} {Q : VK} {d : D} {v : V} (k : Con K G U μ R Q) (hb : Base K G U H μ) (hv : DV K G d v) (h : R (.d d)) : Q v H := k _ _ G H h (Same.refl _) hb hv
/-- a new tuple, a new list -/
theorem Base.new {G U H : Hp} {μ : Mu} {p : Addr} {o : HO} (h : Base K G U H μ) (hp : H p = none) : Base K G U (upd H p o) μ ∧ G p = none ∧ U p = none ∧ μ p = none := by
  have hG : G p = none := h.sub.free hp
  have hU : U p = none := h.usub.free hp
  have hM : μ p = none := by
    cases e : μ p with
    | none => rfl
    | some o =>
      obtain ⟨z, q⟩ := (h.mu p o e).2.there
      rw [hp] at q
      cases q
  refine ⟨⟨fun b u e => ?_, fun b u e => ?_, h.ug, fun b u e => ?_, h.bx⟩, hG, hU, hM⟩
  · rw [upd_ne (ne_of_none e hG)]
    exact h.sub b u e
  · rw [upd_ne (ne_of_none e hU)]
    exact h.usub b u e
  · obtain ⟨h1, h2⟩ := h.mu b u e
    refine ⟨h1, h2.mono (Same.refl _) ?_⟩
    rw [upd_ne]
    intro z
    rw [z, hM] at e
    cases e
theorem Con.tup {G U H : Hp} {μ : Mu} {R : Sl → Prop} {Q : VK} {ds : List D} {vs : List V} {p : Addr} (k : Con K G U μ R Q) (hb : Base K G U H μ) (hv : DVs K G ds vs) (h : R (.d (.tup ds))) (hp : H p = none) : Q (.ref p) (upd H p (.tup vs)) := by
  obtain ⟨b1, h1, h2, h3⟩ := hb.new (o := .tup vs) hp
  exact k _ _ (upd G p (.tup vs)) _ h (same_new h1) (b1.freeze upd_same h1 h2 h3) ⟨p, vs, rfl, upd_same, hv.mono (same_new h1)⟩
theorem Con.lst {G U H : Hp} {μ : Mu} {R : Sl → Prop} {Q : VK} {ds : List D} {vs : List V} {p : Addr} (k : Con K G U μ R Q) (hb : Base K G U H μ) (hv : DVs K G ds vs) (h : R (.l ds)) (hp : H p = none) : Q (.ref p) (upd H p (.lst vs)) := by
  obtain ⟨b1, h1, h2, h3⟩ := hb.new (o := .lst vs) hp
  exact k _ _ G _ h (Same.refl _) b1 ⟨p, rfl, h1, h2, h3, vs, upd_same, hv⟩
theorem os_eq : OpS K (rDat K CEq PyData.eqv) oEq := fun G U H μ x y dx dy R Q b lx ly h k => by
  obtain ⟨⟨o1, o2⟩, o3⟩ := cEq_ok h.1
  have := py_dep dx
  have := py_dep dy
  exact ⟨_, _, lx.dp b o1, ly.dp b o2, ⟨py_plain dx, py_plain dy, by omega⟩, by rw [py_eq dx dy o1 o2]; exact k.bl b h.2⟩
theorem os_ne : OpS K (rDat K CEq fun d e => !PyData.eqv d e) oNe := fun G U H μ x y dx dy R Q b lx ly h k => by
  obtain ⟨⟨o1, o2⟩, o3⟩ := cEq_ok h.1
  have := py_dep dx
  have := py_dep dy
  exact ⟨_, _, lx.dp b o1, ly.dp b o2, ⟨py_plain dx, py_plain dy, by omega⟩, by show Q (V.bl (!PyData.eqv dx.py dy.py)) H; rw [py_eq dx dy o1 o2]; exact k.bl b h.2⟩
theorem py_non {d : D} (o : d.ok = true) (h : d ≠ .non) : d.py ≠ .none := by
  cases d with
  | non => exact absurd rfl h
  | bl b => intro z; cases z
  | int b => intro z; cases z
  | str b => intro z; cases z
  | tup b => intro z; cases z
  | lst b => intro z; cases z
  | _ => cases o
theorem COrd_of {x y : D} (h : ((x.ok = true ∧ y.ok = true) ∧ x ≠ .non ∧ D.alike x y = true) ∧ min x.dep y.dep ≤ 50) : COrd x.py y.py := by
  obtain ⟨⟨⟨o1, o2⟩, n, a⟩, o3⟩ := h
  have := py_dep x
  have := py_dep y
  exact ⟨py_alike x y a, py_non o1 n, by omega⟩
open PySem.W in
theorem COrd.swap {x y : PyData} (h : COrd x y) : COrd y x := ⟨by rw [← alike_comm]; exact h.1, ne_none_both h.1 h.2.1, by rw [Nat.min_comm]; exact h.2.2⟩
theorem os_lt : OpS K (rDat K COrd PySem.W.dataLt) oLt := fun G U H μ x y dx dy R Q b lx ly h k => by
  have c := cOrd_ok h.1
  exact ⟨_, _, lx.dp b c.1.1.1, ly.dp b c.1.1.2, COrd_of c, by show Q (V.bl (PySem.W.dataLt dx.py dy.py)) H; rw [py_lt dx dy c.1.1.1 c.1.1.2 c.1.2.2 c.1.2.1]; exact k.bl b h.2⟩
theorem os_ge : OpS K (rDat K COrd fun d e => !PySem.W.dataLt d e) oGe := fun G U H μ x y dx dy R Q b lx ly h k => by
  have c := cOrd_ok h.1
  exact ⟨_, _, lx.dp b c.1.1.1, ly.dp b c.1.1.2, COrd_of c, by show Q (V.bl (!PySem.W.dataLt dx.py dy.py)) H; rw [py_lt dx dy c.1.1.1 c.1.1.2 c.1.2.2 c.1.2.1]; exact k.bl b h.2⟩
theorem os_gt : OpS K (rDat K COrd fun d e => PySem.W.dataLt e d) oGt := fun G U H μ x y dx dy R Q b lx ly h k => by
  have c := cOrd_ok h.1
  exact ⟨_, _, lx.dp b c.1.1.2, ly.dp b c.1.1.1, (COrd_of c).swap, by show Q (V.bl (PySem.W.dataLt dy.py dx.py)) H; rw [py_lt dy dx c.1.1.1 c.1.1.2 c.1.2.2 c.1.2.1]; exact k.bl b h.2⟩
theorem os_le : OpS K (rDat K COrd fun d e => !PySem.W.dataLt e d) oLe := fun G U H μ x y dx dy R Q b lx ly h k => by
  have c := cOrd_ok h.1
  exact ⟨_, _, lx.dp b c.1.1.2, ly.dp b c.1.1.1, (COrd_of c).swap, by show Q (V.bl (!PySem.W.dataLt dy.py dx.py)) H; rw [py_lt dy dx c.1.1.1 c.1.1.2 c.1.2.2 c.1.2.1]; exact k.bl b h.2⟩

/-! ints -/
def oI (C : Int → Int → Prop) (g : Int → Int → Int) : O2 := fun x y R => match x, y with
  | .int i, .int j => C i j ∧ R (.d (.int (g i j)))
  | _, _ => False
theorem os_I {C : Int → Int → Prop} {g : Int → Int → Int} : OpS K (rI C fun i j => .int (g i j)) (oI C g) := fun G U H μ x y dx dy R Q b lx ly h k => by
  cases dx with
  | int i =>
    cases dy with
    | int j =>
      cases lx.int
      cases ly.int
      exact ⟨i, j, rfl, rfl, h.1, k.int b h.2⟩
    | _ => exact h.elim
  | _ => exact h.elim
def oSub : O2 := fun x y R => match x, y with
  | .int i, .int j => R (.d (.int (i - j)))
  | _, _ => False
theorem os_sub : OpS K (rI0 fun i j => .int (i - j)) oSub := fun G U H μ x y dx dy R Q b lx ly h k => by
  cases dx with
  | int i =>
    cases dy with
    | int j =>
      cases lx.int
      cases ly.int
      exact ⟨i, j, rfl, rfl, k.int b h⟩
    | _ => exact h.elim
  | _ => exact h.elim
/-- a product: one factor below 2^64, or both below some hundred thousand bits -/
def cMul (i j : Int) : Prop := CMul i j ∨ CMulW i j
def oMul : O2 := oI cMul fun i j => i * j
def rMul : R2 := fun x y H Q => rI CMul (fun i j => .int (i * j)) x y H Q ∨ rI CMulW (fun i j => .int (i * j)) x y H Q
theorem opr_mul {X : Cx} : OpR X (binaryOp .Mult) rMul := op_mul.or op_mulW
theorem os_mul : OpS K rMul oMul := fun G U H μ x y dx dy R Q b lx ly h k => by
  cases dx with
  | int i =>
    cases dy with
    | int j =>
      cases lx.int
      cases ly.int
      rcases h.1 with c | c
      · exact .inl ⟨i, j, rfl, rfl, c, k.int b h.2⟩
      · exact .inr ⟨i, j, rfl, rfl, c, k.int b h.2⟩
    | _ => exact h.elim
  | _ => exact h.elim
/-- // and % by a positive number (below 9000 bits) -/
def cDiv (_ j : Int) : Prop := 0 < j ∧ (j < 1073741824 ∨ j.natAbs.log2 < 9000)
def oDiv : O2 := oI cDiv fun i j => i / j
def rDiv : R2 := fun x y H Q => rI CDiv (fun i j => .int (i / j)) x y H Q ∨ rI CDivW (fun i j => .int (i / j)) x y H Q
theorem opr_div {X : Cx} : OpR X (binaryOp .FloorDiv) rDiv := op_fdiv.or op_fdivW
theorem os_div : OpS K rDiv oDiv := fun G U H μ x y dx dy R Q b lx ly h k => by
  cases dx with
  | int i =>
    cases dy with
    | int j =>
      cases lx.int
      cases ly.int
      rcases h.1 with ⟨c, c' | c'⟩
      · exact .inl ⟨i, j, rfl, rfl, ⟨c, c'⟩, k.int b h.2⟩
      · exact .inr ⟨i, j, rfl, rfl, ⟨c, c'⟩, k.int b h.2⟩
    | _ => exact h.elim
  | _ => exact h.elim
def oMod : O2 := oI (fun _ j => 0 < j) fun i j => i % j
def oPow : O2 := oI CPow fun i j => i ^ j.toNat

/-! + -/
def rCatL (K : PySem.W.Frag) : R2 := fun x y H Q => ∃ l b xs zs, x = .ref l ∧ y = .ref b ∧ SqL K H l xs ∧ SqL K H b zs ∧ xs.length + zs.length ≤ sizeLine ∧ ∀ p, H p = none → Q (.ref p) (upd H p (.lst (xs ++ zs)))
theorem op_catL {X : Cx} : OpR X (binaryOp .Add) (rCatL X.K) := by
  intro pins s σ H x y v u Q I rx ry h
  obtain ⟨l, b, xs, zs, rfl, rfl, hH, hB, hz, q⟩ := h
  cases rx
  cases ry
  obtain ⟨its, r, p, z⟩ := I.list hH
  obtain ⟨its2, r2, p2, z2⟩ := I.list hB
  have hl := r.length
  have hl2 := r2.length
  obtain ⟨⟨cls, dd, data, sl⟩, ho, hc, n, hd⟩ := p.isList
  obtain ⟨⟨cls2, dd2, data2, sl2⟩, ho2, hc2, n2, hd2⟩ := p2.isList
  simp only at hc hd hc2 hd2
  subst hc hd hc2 hd2
  have e : its.toArray ++ its2.toArray = (its ++ its2).toArray := by simp
  refine concat_meets ⟨_, ho, rfl⟩ ⟨_, ho2, rfl⟩ noFill_list_add seq_list_add PySem.F.slot_list_add PySem.F.entry_list_add (PySem.F.args_list_add_2 _ _) (list_addW l b its.toArray its2.toArray n n2 dd dd2 sl sl2 (by simp only [List.size_toArray]; omega)) ⟨ho, ho2, ?_⟩
  rw [e]
  exact ⟨.ref _, _, I.lnew (t' := s.toks) (r.append r2) (by rw [List.length_append]; omega), rfl, q _ I.fresh⟩
def rAddA (K : PySem.W.Frag) : R2 := fun x y H Q => rI0 (fun i j => .int (i + j)) x y H Q ∨ (∃ i j, x = .str i ∧ y = .str j ∧ i.length + j.length ≤ sizeLine ∧ Q (.str (i ++ j)) H) ∨ rCatL K x y H Q ∨ rCatA K x y H Q
theorem opr_add {X : Cx} : OpR X (binaryOp .Add) (rAddA X.K) := op_add.or (op_add_str.or (op_catL.or op_catA))
def oAdd : O2 := fun x y R => match x, y with
  | .int i, .int j => R (.d (.int (i + j)))
  | .str i, .str j => i.length + j.length ≤ sizeLine ∧ R (.d (.str (i ++ j)))
  | .tup xs, .tup ys => xs.length + ys.length ≤ sizeLine ∧ R (.d (.tup (xs ++ ys)))
  | .lst xs, .lst ys => xs.length + ys.length ≤ sizeLine ∧ R (.l (xs ++ ys))
  | _, _ => False
theorem os_add : OpS K (rAddA K) oAdd := fun G U H μ x y dx dy R Q b lx ly h k => by
  cases dx with
  | int i =>
    cases dy with
    | int j =>
      cases lx.int
      cases ly.int
      exact .inl ⟨i, j, rfl, rfl, k.int b h⟩
    | _ => exact h.elim
  | str i =>
    cases dy with
    | str j =>
      cases lx.str
      cases ly.str
      exact .inr (.inl ⟨i, j, rfl, rfl, h.1, k.str b h.2⟩)
    | _ => exact h.elim
  | tup xs =>
    cases dy with
    | tup ys =>
      obtain ⟨p, us, rfl, h1, h2⟩ := lx.tup b
      obtain ⟨q, ws, rfl, h3, h4⟩ := ly.tup b
      have e1 := h2.len
      have e2 := h4.len
      have hsz := h.1
      refine .inr (.inr (.inr ⟨p, q, us, ws, rfl, rfl, h1, h3, by omega, fun z => ?_, fun _ z => ?_, fun _ _ r hr => k.tup b (h2.app h4) h.2 hr⟩))
      · subst z
        have : xs = [] := List.length_eq_zero_iff.mp e1
        subst this
        rcases ly with d | ⟨_, x, _, hh, hd⟩
        · exact k.dv b d h.2
        · cases x <;> first | exact hh.elim | cases hd
      · subst z
        have : ys = [] := List.length_eq_zero_iff.mp e2
        subst this
        have hr := h.2
        rw [List.append_nil] at hr
        rcases lx with d | ⟨_, x, _, hh, hd⟩
        · exact k.dv b d hr
        · cases x <;> first | exact hh.elim | cases hd
    | _ => exact h.elim
  | lst xs =>
    cases dy with
    | lst ys =>
      obtain ⟨p, us, rfl, h1, h2⟩ := lx.lst b
      obtain ⟨q, ws, rfl, h3, h4⟩ := ly.lst b
      have e1 := h2.len
      have e2 := h4.len
      have hsz := h.1
      exact .inr (.inr (.inl ⟨p, q, us, ws, rfl, rfl, h1, h3, by omega, fun r hr => k.lst b (h2.app h4) h.2 hr⟩))
    | _ => exact h.elim
  | _ => exact h.elim

/-! ### subscripts, slices -/
def atD {α : Type} (ds : List α) : Int → Option α
  | .ofNat n => ds[n]?
  | .negSucc n => if n < ds.length then ds[ds.length - 1 - n]? else none
theorem atD_ok {α : Type} {ds : List α} {i : Int} {d : α} (h : atD ds i = some d) : atI ds i = some d := by
  cases i with
  | ofNat n => exact atI_nat h
  | negSucc n =>
    have h : (if n < ds.length then ds[ds.length - 1 - n]? else none) = some d := h
    split at h
    · rename_i hn
      unfold atI ixN
      rw [if_neg (by omega), if_pos (by omega)]
      have : (Int.negSucc n + (ds.length : Int)).toNat = ds.length - 1 - n := by omega
      show ds[(Int.negSucc n + (ds.length : Int)).toNat]? = some d
      rw [this]
      exact h
    · cases h
theorem DVs.at {G : Hp} {ds : List D} {vs : List V} {i : Int} {d : D} (h : DVs K G ds vs) (e : atI ds i = some d) : ∃ v, atI vs i = some v ∧ DV K G d v := by
  unfold atI at e ⊢
  rw [← h.len]
  cases q : ixN ds.length i with
  | none => rw [q] at e; cases e
  | some j =>
    rw [q] at e
    exact h.get e
/-- a dict's value -/
def dlook : List Key → List D → Key → Option D
  | k :: ks, d :: ds, x => if k = x then some d else dlook ks ds x
  | _, _, _ => none
theorem dlook_ok {G : Hp} : ∀ {ks : List Key} {ds : List D} {vs : List V} {x : Key}, ks.length = vs.length → DVs K G ds vs → (∀ d, dlook ks ds x = some d → ∃ v, valV (ks.zip vs) x = some v ∧ DV K G d v) ∧ (dlook ks ds x = none → valV (ks.zip vs) x = none)
  | [], _, _, _, _, _ => ⟨(fun d h => by cases h), fun _ => rfl⟩
  | k :: ks, [], vs, x, hl, h => by
    have h : vs = [] := h
    subst h
    simp at hl
  | k :: ks, d :: ds, vs, x, hl, ⟨v, r, h1, h2, h3⟩ => by
    subst h1
    have ih := dlook_ok (ks := ks) (ds := ds) (vs := r) (x := x) (by simpa using hl) h3
    by_cases e : k = x
    · refine ⟨fun d' h => ?_, fun h => ?_⟩
      · unfold dlook at h
        rw [if_pos e] at h
        cases h
        exact ⟨v, valV_pos e, h2⟩
      · unfold dlook at h
        rw [if_pos e] at h
        cases h
    · refine ⟨fun d' h => ?_, fun h => ?_⟩
      · unfold dlook at h
        rw [if_neg e] at h
        obtain ⟨w, q1, q2⟩ := ih.1 d' h
        exact ⟨w, (valV_neg e).trans q1, q2⟩
      · unfold dlook at h
        rw [if_neg e] at h
        exact (valV_neg e).trans (ih.2 h)
def keyOf : D → Option Key
  | .int i => some (.inl i)
  | .str x => some (.inr x)
  | _ => none
theorem keyOf_ok {G H : Hp} {d : D} {v : V} {k : Key} (h : Lk K G H d v) (e : keyOf d = some k) : v = kV k := by
  cases d with
  | int i => cases e; exact h.int
  | str i => cases e; exact h.str
  | _ => cases e
def keyTs : List D → Option (List Key)
  | [] => some []
  | d :: ds => match keyOf d, keyTs ds with
    | some k, some ks => some (k :: ks)
    | _, _ => none
theorem keyTs_ok {G : Hp} : ∀ {ds : List D} {xs : List V} {ks : List Key}, DVs K G ds xs → keyTs ds = some ks → xs = ks.map kV
  | [], xs, ks, h, e => by
    cases e
    exact h
  | d :: ds, xs, ks, ⟨v, r, e1, h1, h2⟩, e => by
    subst e1
    unfold keyTs at e
    cases e2 : keyOf d with
    | none => rw [e2] at e; cases e
    | some k =>
      cases e3 : keyTs ds with
      | none => rw [e2, e3] at e; cases e
      | some ks' =>
        rw [e2, e3] at e
        cases e
        rw [keyOf_ok (H := G) (.inl h1) e2, keyTs_ok h2 e3]
        rfl
def tlook : List (List Key) → List D → List Key → Option D
  | k :: ks, d :: ds, x => if k = x then some d else tlook ks ds x
  | _, _, _ => none
theorem tlook_ok {G : Hp} : ∀ {ks : List (List Key)} {ds : List D} {vs : List V} {x : List Key}, ks.length = vs.length → DVs K G ds vs → (∀ d, tlook ks ds x = some d → ∃ v, valV (ks.zip vs) x = some v ∧ DV K G d v) ∧ (tlook ks ds x = none → valV (ks.zip vs) x = none)
  | [], _, _, _, _, _ => ⟨(fun d h => by cases h), fun _ => rfl⟩
  | k :: ks, [], vs, x, hl, h => by
    have h : vs = [] := h
    subst h
    simp at hl
  | k :: ks, d :: ds, vs, x, hl, ⟨v, r, h1, h2, h3⟩ => by
    subst h1
    have ih := tlook_ok (x := x) (ks := ks) (ds := ds) (vs := r) (by simpa using hl) h3
    by_cases e : k = x
    · refine ⟨fun d' h => ?_, fun h => ?_⟩
      · unfold tlook at h
        rw [if_pos e] at h
        cases h
        exact ⟨v, valV_pos e, h2⟩
      · unfold tlook at h
        rw [if_pos e] at h
        cases h
    · refine ⟨fun d' h => ?_, fun h => ?_⟩
      · unfold tlook at h
        rw [if_neg e] at h
        obtain ⟨w, q1, q2⟩ := ih.1 d' h
        exact ⟨w, (valV_neg e).trans q1, q2⟩
      · unfold tlook at h
        rw [if_neg e] at h
        exact (valV_neg e).trans (ih.2 h)
def rDIx : R2 := fun x y H Q => ∃ a v, x = .ref a ∧ DGet H a y (some v) ∧ Q v H
theorem ixr_d {X : Cx} (hu : X.A.units + 1 < cLine) : IxR X rDIx := by
  intro value slice pins s σ H x y v u Q I rx ry h hs
  obtain ⟨a, w, rfl, g, q⟩ := h
  obtain rfl : v = Value.ref a := rx
  exact tail_any (dict_typeIs I g) PySem.F.slot_dict_getitem.lookup (d_getItem hu I g ry fun w' s3 I3 rw' => ⟨w, H, I3, rw', q⟩) hs
def rIxA (K : PySem.W.Frag) : R2 := fun x y H Q => rIx K x y H Q ∨ rDIx x y H Q
theorem ixr {X : Cx} (hu : X.A.units + 64 < cLine) : IxR X (rIxA X.K) := ix_seq.or (ixr_d (by omega))
def oIx : O2 := fun x y R => match x, y with
  | .tup ds, .int i => match atD ds i with
    | some d => R (.d d)
    | none => False
  | .lst ds, .int i => match atD ds i with
    | some d => R (.d d)
    | none => False
  | .str z, .int i => z.length ≤ sizeLine ∧ match atD z.cps.toList i with
    | some c => R (.d (.str ⟨#[c]⟩))
    | none => False
  | .dic ks ds, y => match keyOf y with
    | some k => match dlook ks ds k with
      | some d => R (.d d)
      | none => False
    | none => False
  | .tpl ds, .int i => match atD ds i with
    | some d => R (.d d)
    | none => False
  | .dit ks ds, .tup es => match keyTs es with
    | some k => match tlook ks ds k with
      | some d => R (.d d)
      | none => False
    | none => False
  | _, _ => False
theorem os_ix : OpS K (rIxA K) oIx := fun G U H μ x y dx dy R Q b lx ly h k => by
  cases dx with
  | tup ds =>
    cases dy with
    | int i =>
      have h : (match atD ds i with | some d => R (.d d) | none => False) := h
      obtain ⟨p, us, rfl, h1, h2⟩ := lx.tup b
      cases ly.int
      cases e : atD ds i with
      | none => rw [e] at h; exact h.elim
      | some d =>
        rw [e] at h
        obtain ⟨v, q1, q2⟩ := h2.at (atD_ok e)
        exact .inl (.inr (.inl ⟨p, us, i, v, rfl, rfl, h1, q1, k.dv b q2 h⟩))
    | _ => exact h.elim
  | tpl ds =>
    cases dy with
    | int i =>
      have h : (match atD ds i with | some d => R (.d d) | none => False) := h
      obtain ⟨p, us, rfl, h1, h2⟩ := lx.tpl b
      cases ly.int
      cases e : atD ds i with
      | none => rw [e] at h; exact h.elim
      | some d =>
        rw [e] at h
        obtain ⟨v, q1, q2⟩ := h2.at (atD_ok e)
        exact .inl (.inr (.inl ⟨p, us, i, v, rfl, rfl, h1, q1, k.dv b q2 h⟩))
    | _ => exact h.elim
  | dit ks ds =>
    cases dy with
    | tup es =>
      have h : (match keyTs es with | some k => (match tlook ks ds k with | some d => R (.d d) | none => False) | none => False) := h
      obtain ⟨p, us, rfl, h1, h2, h3⟩ := lx.dit b
      obtain ⟨q, ws, rfl, g1, g2⟩ := ly.tupS b
      cases e : keyTs es with
      | none => rw [e] at h; exact h.elim
      | some kk =>
        rw [e] at h
        have h : (match tlook ks ds kk with | some d => R (.d d) | none => False) := h
        cases e2 : tlook ks ds kk with
        | none => rw [e2] at h; exact h.elim
        | some d =>
          rw [e2] at h
          obtain ⟨v, q1, q2⟩ := (tlook_ok h2 h3).1 d e2
          exact .inr ⟨p, v, rfl, .inr ⟨_, kk, q, h1, rfl, by rw [g1, keyTs_ok g2 e], q1.symm⟩, k.dv b q2 h⟩
    | _ => exact h.elim
  | lst ds =>
    cases dy with
    | int i =>
      have h : (match atD ds i with | some d => R (.d d) | none => False) := h
      obtain ⟨p, us, rfl, h1, h2⟩ := lx.lst b
      cases ly.int
      cases e : atD ds i with
      | none => rw [e] at h; exact h.elim
      | some d =>
        rw [e] at h
        obtain ⟨v, q1, q2⟩ := h2.at (atD_ok e)
        exact .inl (.inl ⟨p, us, i, v, rfl, rfl, h1, q1, k.dv b q2 h⟩)
    | _ => exact h.elim
  | str z =>
    cases dy with
    | int i =>
      have h : z.length ≤ sizeLine ∧ (match atD z.cps.toList i with | some c => R (.d (.str ⟨#[c]⟩)) | none => False) := h
      cases lx.str
      cases ly.int
      cases e : atD z.cps.toList i with
      | none => rw [e] at h; exact h.2.elim
      | some c =>
        rw [e] at h
        exact .inl (.inr (.inr ⟨z, i, c, rfl, rfl, h.1, atD_ok e, k.str b h.2⟩))
    | _ => exact h.elim
  | dic ks ds =>
    have h : (match keyOf dy with | some k => (match dlook ks ds k with | some d => R (.d d) | none => False) | none => False) := h
    obtain ⟨p, us, rfl, h1, h2, h3⟩ := lx.dic b
    cases e : keyOf dy with
    | none => rw [e] at h; exact h.elim
    | some kk =>
      rw [e] at h
      have h : (match dlook ks ds kk with | some d => R (.d d) | none => False) := h
      cases e2 : dlook ks ds kk with
      | none => rw [e2] at h; exact h.elim
      | some d =>
        rw [e2] at h
        obtain ⟨v, q1, q2⟩ := (dlook_ok (x := kk) h2 h3).1 d e2
        exact .inr ⟨p, v, rfl, .inl ⟨_, kk, h1, keyOf_ok ly e, q1.symm⟩, k.dv b q2 h⟩
  | _ => exact h.elim

/-! ### in -/
def rDIn (f : Bool → Bool) : R2 := fun y x H Q => ∃ a o, x = .ref a ∧ DGet H a y o ∧ Q (.bl (f o.isSome)) H
theorem opr_din {X : Cx} (hu : X.A.units + 64 < cLine) : OpR X (compareOp .In) (rDIn fun b => b) := by
  intro pins s σ H x y v u Q I rx ry h
  obtain ⟨a, o, rfl, g, q⟩ := h
  obtain rfl : u = Value.ref a := ry
  exact d_in (by omega) I g rx fun s3 I3 => ⟨.bl _, H, I3, rfl, q⟩
theorem opr_dnotin {X : Cx} (hu : X.A.units + 64 < cLine) : OpR X (compareOp .NotIn) (rDIn fun b => !b) := by
  intro pins s σ H x y v u Q I rx ry h
  obtain ⟨a, o, rfl, g, q⟩ := h
  obtain rfl : u = Value.ref a := ry
  exact d_notIn (by omega) I g rx fun s3 I3 => ⟨.bl _, H, I3, rfl, q⟩
def rInS (f : Bool → Bool) : R2 := fun x y H Q => ∃ (c : Nat) (z : Str), x = .str ⟨#[c]⟩ ∧ y = .str z ∧ Q (.bl (f (decide (c ∈ z.cps.toList)))) H
def rInP (K : PySem.W.Frag) (f : Bool → Bool) : R2 := fun x y H Q => ∃ d ds e, Dp K H x d ∧ Dp K H y e ∧ (e = .list ds ∨ e = .tuple ds) ∧ (d.plain = true ∧ PyData.plainAll ds = true ∧ min (PyData.depthAll ds) d.depth ≤ 50) ∧ Q (.bl (f (ds.any fun z => PyData.eqv z d))) H
theorem opr_inP {X : Cx} (hu : X.A.units + 64 < cLine) : OpR X (compareOp .In) (rInP X.K fun b => b) := by
  intro pins s σ H x y v u Q I rx ry h
  obtain ⟨d, ds, e, hd, he, hz, ⟨c1, c2, c3⟩, q⟩ := h
  obtain ⟨as, r1⟩ := Dp.reads I d x v hd rx
  obtain ⟨bs, r2⟩ := Dp.reads I e y u he ry
  rcases hz with rfl | rfl
  · exact PySem.SeqAt.in_list_data r2 r1 c2 c1 (by omega) ⟨.bl _, H, I, rfl, q⟩
  · exact PySem.SeqAt.in_tuple_data r2 r1 c2 c1 (by omega) ⟨.bl _, H, I, rfl, q⟩
theorem opr_notInP {X : Cx} (hu : X.A.units + 64 < cLine) : OpR X (compareOp .NotIn) (rInP X.K fun b => !b) := by
  intro pins s σ H x y v u Q I rx ry h
  obtain ⟨d, ds, e, hd, he, hz, ⟨c1, c2, c3⟩, q⟩ := h
  obtain ⟨as, r1⟩ := Dp.reads I d x v hd rx
  obtain ⟨bs, r2⟩ := Dp.reads I e y u he ry
  rcases hz with rfl | rfl
  · exact PySem.SeqAt.notIn_list_data r2 r1 c2 c1 (by omega) ⟨.bl _, H, I, rfl, q⟩
  · exact PySem.SeqAt.notIn_tuple_data r2 r1 c2 c1 (by omega) ⟨.bl _, H, I, rfl, q⟩
def rInA (K : PySem.W.Frag) (f : Bool → Bool) : R2 := fun x y H Q => rInP K f x y H Q ∨ rInS f x y H Q ∨ rDIn f x y H Q
theorem opr_in {X : Cx} (hu : X.A.units + 64 < cLine) : OpR X (compareOp .In) (rInA X.K fun b => b) := (opr_inP hu).or (op_in_sign.or (opr_din hu))
theorem opr_notin {X : Cx} (hu : X.A.units + 64 < cLine) : OpR X (compareOp .NotIn) (rInA X.K fun b => !b) := (opr_notInP hu).or (op_notIn_sign.or (opr_dnotin hu))
/-- what is asked of the deep -/
def cIn (x : D) (ds : List D) : Prop := (x.ok = true ∧ D.oks ds = true) ∧ min (D.deps ds) x.dep ≤ 50
def oIn (f : Bool → Bool) : O2 := fun x y R => match x, y with
  | .str x, .str z => match x.cps.toList with
    | [c] => R (.d (.bl (f (decide (c ∈ z.cps.toList)))))
    | _ => False
  | x, .tup ds => cIn x ds ∧ R (.d (.bl (f (ds.any fun z => D.eq z x))))
  | x, .lst ds => cIn x ds ∧ R (.d (.bl (f (ds.any fun z => D.eq z x))))
  | x, .dic ks ds => match keyOf x with
    | some k => R (.d (.bl (f (dlook ks ds k).isSome)))
    | none => False
  | x, .tpl ds => cIn x ds ∧ R (.d (.bl (f (ds.any fun z => D.eq z x))))
  | .tup es, .dit ks ds => match keyTs es with
    | some k => R (.d (.bl (f (tlook ks ds k).isSome)))
    | none => False
  | _, _ => False
theorem pys_any (x : D) (hx : x.ok = true) : ∀ ds : List D, D.oks ds = true → ((D.pys ds).any fun z => PyData.eqv z x.py) = ds.any fun z => D.eq z x
  | [], _ => rfl
  | d :: r, h => by
    unfold D.oks at h
    rw [Bool.and_eq_true] at h
    show ((d.py :: D.pys r).any fun z => PyData.eqv z x.py) = _
    rw [List.any_cons, List.any_cons, py_eq d x h.1 hx, pys_any x hx r h.2]
theorem os_in {f : Bool → Bool} : OpS K (rInA K f) (oIn f) := fun G U H μ x y dx dy R Q b lx ly h k => by
  have seq : ∀ {ds : List D} {e : D}, cIn dx ds → R (.d (.bl (f (ds.any fun z => D.eq z dx)))) → Lk K G H e y → e.ok = true → (e.py = .list (D.pys ds) ∨ e.py = .tuple (D.pys ds)) → rInA K f x y H Q := fun {ds e} c hr le oe he => by
    have := py_dep dx
    have := py_deps ds
    have := c.2
    exact .inl ⟨dx.py, D.pys ds, e.py, lx.dp b c.1.1, le.dp b oe, he, ⟨py_plain dx, py_plains ds, by omega⟩, by rw [pys_any dx c.1.1 ds c.1.2]; exact k.bl b hr⟩
  cases dy with
  | tup ds =>
    have h : cIn dx ds ∧ R (.d (.bl (f (ds.any fun z => D.eq z dx)))) := by cases dx <;> exact h
    exact seq (e := .tup ds) h.1 h.2 ly h.1.1.2 (.inr rfl)
  | tpl ds =>
    have h : cIn dx ds ∧ R (.d (.bl (f (ds.any fun z => D.eq z dx)))) := by cases dx <;> exact h
    obtain ⟨p, us, rfl, h1, h2⟩ := ly.tpl b
    obtain ⟨c, hr⟩ := h
    have := py_dep dx
    have := py_deps ds
    have := c.2
    exact .inl ⟨dx.py, D.pys ds, .tuple (D.pys ds), lx.dp b c.1.1, .tup h1 (dps_same b.sub (dvs_dp c.1.2 h2)), .inr rfl, ⟨py_plain dx, py_plains ds, by omega⟩, by rw [pys_any dx c.1.1 ds c.1.2]; exact k.bl b hr⟩
  | dit ks ds =>
    cases dx with
    | tup es =>
      have h : (match keyTs es with | some k => R (.d (.bl (f (tlook ks ds k).isSome))) | none => False) := h
      obtain ⟨p, us, rfl, h1, h2, h3⟩ := ly.dit b
      obtain ⟨q, ws, rfl, g1, g2⟩ := lx.tupS b
      cases e : keyTs es with
      | none => rw [e] at h; exact h.elim
      | some kk =>
        rw [e] at h
        refine .inr (.inr ⟨p, valV (ks.zip us) kk, rfl, .inr ⟨_, kk, q, h1, rfl, by rw [g1, keyTs_ok g2 e], rfl⟩, ?_⟩)
        have : (valV (ks.zip us) kk).isSome = (tlook ks ds kk).isSome := by
          have q := tlook_ok (x := kk) h2 h3
          cases e2 : tlook ks ds kk with
          | none => rw [q.2 e2] <;> rfl
          | some d =>
            obtain ⟨v, q1, _⟩ := q.1 d e2
            rw [q1]
            rfl
        rw [this]
        exact k.bl b h
    | _ => exact h.elim
  | lst ds =>
    have h : cIn dx ds ∧ R (.d (.bl (f (ds.any fun z => D.eq z dx)))) := by cases dx <;> exact h
    exact seq (e := .lst ds) h.1 h.2 ly h.1.1.2 (.inl rfl)
  | str z =>
    cases dx with
    | str w =>
      have h : (match w.cps.toList with | [c] => R (.d (.bl (f (decide (c ∈ z.cps.toList))))) | _ => False) := h
      cases lx.str
      cases ly.str
      split at h
      · rename_i c e
        have hw : w = ⟨#[c]⟩ := by
          cases w with
          | mk cps =>
            congr 1
            exact Array.toList_inj.mp (e.trans rfl)
        subst hw
        exact .inr (.inl ⟨c, z, rfl, rfl, k.bl b h⟩)
      · exact h.elim
    | _ => exact h.elim
  | dic ks ds =>
    have h : (match keyOf dx with | some k => R (.d (.bl (f (dlook ks ds k).isSome))) | none => False) := by cases dx <;> exact h
    obtain ⟨p, us, rfl, h1, h2, h3⟩ := ly.dic b
    cases e : keyOf dx with
    | none => rw [e] at h; exact h.elim
    | some kk =>
      rw [e] at h
      refine .inr (.inr ⟨p, valV (ks.zip us) kk, rfl, .inl ⟨_, kk, h1, keyOf_ok lx e, rfl⟩, ?_⟩)
      have : (valV (ks.zip us) kk).isSome = (dlook ks ds kk).isSome := by
        have q := dlook_ok (x := kk) h2 h3
        cases e2 : dlook ks ds kk with
        | none => rw [q.2 e2] <;> rfl
        | some d =>
          obtain ⟨v, q1, _⟩ := q.1 d e2
          rw [q1] <;> rfl
      rw [this]
      exact k.bl b h
  | _ => cases dx <;> exact h.elim

/-! ### is None -/
def oIs (f : Bool → Bool) : O2 := fun x y R => match y with
  | .non => match x with
    | .non => R (.d (.bl (f true)))
    | _ => R (.d (.bl (f false)))
  | _ => False
def D.isNon : D → Bool
  | .non => true
  | _ => false
theorem isnon {G H : Hp} {d : D} {v : V} (h : Lk K G H d v) : decide (v = .non) = d.isNon := by
  rcases h with h | ⟨p, x, hv, hh, hd⟩
  · cases d with
    | non => have h : v = .non := h; subst h; rfl
    | bl b => have h : v = .bl b := h; subst h; rfl
    | int b => have h : v = .int b := h; subst h; rfl
    | str b => have h : v = .str b := h; subst h; exact decide_eq_false (fun z => by cases z)
    | ty b => have h : v = .ty b := h; subst h; exact decide_eq_false (fun z => by cases z)
    | ref b => have h : v = .ref b := h; subst h; exact decide_eq_false (fun z => by cases z)
    | tup ds => obtain ⟨a, xs, e, _⟩ := h; subst e; exact decide_eq_false (fun z => by cases z)
    | lst ds => obtain ⟨a, xs, e, _⟩ := h; subst e; exact decide_eq_false (fun z => by cases z)
    | dic ks ds => obtain ⟨a, xs, e, _⟩ := h; subst e; exact decide_eq_false (fun z => by cases z)
    | dit ks ds => obtain ⟨a, xs, e, _⟩ := h; subst e; exact decide_eq_false (fun z => by cases z)
    | tpl ds => obtain ⟨a, xs, e, _⟩ := h; subst e; exact decide_eq_false (fun z => by cases z)
    | dlr => obtain ⟨a, xs, ns, e, _⟩ := h; subst e; exact decide_eq_false (fun z => by cases z)
    | mch w0 => obtain ⟨a, xs, ns, e, _⟩ := h; subst e; exact decide_eq_false (fun z => by cases z)
  · subst hv hd
    cases x with
    | no => exact hh.elim
    | d d => exact hh.elim
    | b i => exact hh.elim
    | l ds => exact decide_eq_false (fun z => by cases z)
    | k ks ds => exact decide_eq_false (fun z => by cases z)
    | t ks ds => exact decide_eq_false (fun z => by cases z)
theorem oIs_val {f : Bool → Bool} {x : D} {R : Sl → Prop} (h : oIs f x .non R) : R (.d (.bl (f x.isNon))) := by
  cases x <;> exact h
theorem os_is : OpS K (fun x y H Q => y = .non ∧ Q (.bl (decide (x = .non))) H) (oIs fun b => b) := fun G U H μ x y dx dy R Q b lx ly h k => by
  cases dy with
  | non => exact ⟨ly.non, by rw [isnon lx]; exact k.bl b (oIs_val h)⟩
  | _ => exact h.elim
theorem os_isnot : OpS K (fun x y H Q => y = .non ∧ Q (.bl (!decide (x = .non))) H) (oIs fun b => !b) := fun G U H μ x y dx dy R Q b lx ly h k => by
  cases dy with
  | non => exact ⟨ly.non, by rw [isnon lx]; exact k.bl b (oIs_val h)⟩
  | _ => exact h.elim
end
end DL
/-! DL7: len, isinstance, int, tuple, list, slices; own lists and dicts written; comprehensions. -/
namespace DL
open PySem PySem.Spec PyProof.Rows L2

section
variable {K : PySem.W.Frag}
/-! ### len -/
def rLenA (K : PySem.W.Frag) : List V → Hp → VK → Prop := fun xs H Q => (∃ x n, xs = [x] ∧ LenV K x H n ∧ Q (.int n) H) ∨ ∃ a, ∃ kvs : List (Key × V), xs = [.ref a] ∧ Rd H a (.dK kvs) ∧ Q (.int kvs.length) H
theorem cr_len {X : Cx} : CallR X (.builtin "len") (rLenA X.K) := by
  intro pins s σ H xs us Q I r h
  rcases h with h | ⟨a, kvs, rfl, ha, q⟩
  · exact call_len pins s σ H xs us Q I r h
  · obtain ⟨u, rfl, ru⟩ := vals1 r
    cases ru
    exact d_len I ha fun t s' I' => ⟨.int kvs.length, H, I', ⟨t, rfl⟩, q⟩
def oLen : O1 := fun x R => match x with
  | .str z => z.length ≤ sizeLine ∧ R (.d (.int z.length))
  | .tup ds => R (.d (.int ds.length))
  | .lst ds => R (.d (.int ds.length))
  | .dic ks _ => R (.d (.int ks.length))
  | .tpl ds => R (.d (.int ds.length))
  | _ => False
theorem cs_len : Call1S K (rLenA K) oLen := fun G U H μ x d R Q b l h k => by
  cases d with
  | str z =>
    cases l.str
    exact .inl ⟨_, z.length, rfl, ⟨h.1, rfl⟩, k.int b h.2⟩
  | tup ds =>
    obtain ⟨a, xs, rfl, h1, h2⟩ := l.tup b
    exact .inl ⟨_, xs.length, rfl, .inr ⟨xs, h1, rfl⟩, by rw [← h2.len]; exact k.int b h⟩
  | tpl ds =>
    obtain ⟨a, xs, rfl, h1, h2⟩ := l.tpl b
    exact .inl ⟨_, xs.length, rfl, .inr ⟨xs, h1, rfl⟩, by rw [← h2.len]; exact k.int b h⟩
  | lst ds =>
    obtain ⟨a, xs, rfl, h1, h2⟩ := l.lst b
    exact .inl ⟨_, xs.length, rfl, .inl ⟨xs, h1, rfl⟩, by rw [← h2.len]; exact k.int b h⟩
  | dic ks ds =>
    obtain ⟨a, xs, rfl, h1, h2, h3⟩ := l.dic b
    refine .inr ⟨a, ks.zip xs, rfl, h1, ?_⟩
    have : (ks.zip xs).length = ks.length := by rw [List.length_zip]; omega
    rw [this]
    exact k.int b h
  | _ => exact h.elim

/-! ### isinstance of a built-in type -/
def D.tyName : D → Option String
  | .non => some "NoneType"
  | .bl _ => some "bool"
  | .int _ => some "int"
  | .str _ => some "str"
  | .tup _ => some "tuple"
  | .lst _ => some "list"
  | .dic _ _ => some "dict"
  | _ => none
theorem ty_rd {H : Hp} {a : Addr} {xs : List V} (h : SqT K H a xs) : TyX K H (.ref a) (.type "tuple") := by
  rcases h with (h | ⟨o, h⟩) | ⟨o, its, n, h1, h2, _⟩
  · exact .base (.tup h)
  · exact .fTuple h
  · exact .kTuple h1 h2
theorem ty_rl {H : Hp} {a : Addr} {xs : List V} (h : SqL K H a xs) : TyX K H (.ref a) (.type "list") := by
  rcases h with (h | ⟨o, h⟩) | ⟨o, its, n, h1, h2, _⟩
  · exact .base (.lst h)
  · exact .base (.frz h)
  · exact .kList h1 h2
theorem ty_ok {G U H : Hp} {μ : Mu} {d : D} {v : V} {T : String} (b : Base K G U H μ) (l : Lk K G H d v) (h : d.tyName = some T) : TyX K H v (.type T) := by
  cases d with
  | non => cases h; cases l.non; exact .base .non
  | bl c => cases h; cases l.bl; exact .base (.bl _)
  | int i => cases h; cases l.int; exact .base (.int _)
  | str x => cases h; cases l.str; exact .base (.str _)
  | tup ds => cases h; obtain ⟨a, xs, rfl, h1, h2⟩ := l.tup b; exact ty_rd h1
  | lst ds => cases h; obtain ⟨a, xs, rfl, h1, h2⟩ := l.lst b; exact ty_rl h1
  | dic ks ds =>
    cases h
    obtain ⟨a, xs, rfl, h1, h2⟩ := l.dic b
    rcases h1 with h1 | ⟨o, h1⟩
    · exact .base (.dK h1)
    · exact .fDict h1
  | _ => cases h
/-- isinstance(x, T): f tells it by the type's name -/
def oIsT (f : String → Option Bool) : O1 := fun x R => match x.tyName with
  | some t => match f t with
    | some b => R (.d (.bl b))
    | none => False
  | none => False
def isInt : String → Option Bool
  | "int" => some true
  | "bool" => some true
  | "NoneType" => some false
  | "str" => some false
  | "tuple" => some false
  | "list" => some false
  | "dict" => some false
  | _ => none
def isOnly (T : String) : String → Option Bool := fun t => if t = T then some true else if t = "int" ∨ t = "NoneType" ∨ t = "str" ∨ t = "tuple" ∨ t = "list" ∨ t = "dict" ∨ t = "bool" then some false else none
theorem cs_isi {n : String} {f : String → Option Bool} (hf : ∀ d : D, ∀ t b, d.tyName = some t → f t = some b → kitB t n = some b) {X : Cx} {e c : Expr} {φ : PhiE} {x : Str} {p pos : Pos} (hx : x = "isinstance") (hg : Gl X x) (hm : X.mg x = none) (he : PE X e (liftE X.K φ)) (hc : PE X c (tC (.ty n)))
    (hs : starEach [e, c] X.env = [(false, eval e X.env), (false, eval c X.env)] := by rfl) (hs2 : starEach [c] X.env = [(false, eval c X.env)] := by rfl) : PE X (.Call (.Name x p) [e, c] [] pos) (liftE X.K (eUn (oIsT f) φ)) := by
  subst hx
  refine (pe_callB call_isi hg hm boot_isinstance (pa_cons he (pa_cons hc pa_nil hs2) (by rw [hs, hs2])) (by decide) (by decide) (by rw [hs, hs2]) (by rw [hs2]; rfl)).imp fun σ H Q q => ?_
  have := un_of (X := X) (r := fun x H Q => rIsi X.K [x, .ty n] H Q) (o := oIsT f) (φ := φ) (fun G U H μ x d R Q b l h k => by
    unfold oIsT at h
    cases ht : d.tyName with
    | none => rw [ht] at h; exact h.elim
    | some t =>
      rw [ht] at h
      have h : (match f t with | some b => R (.d (.bl b)) | none => False) := h
      cases hft : f t with
      | none => rw [hft] at h; exact h.elim
      | some bb =>
        rw [hft] at h
        exact ⟨x, .ty n, .type t, .type n, bb, rfl, .ty n, ty_ok b l ht, kit_ty (hf d t bb ht hft), k.bl b h⟩) q
  exact this
theorem hf_int : ∀ d : D, ∀ t b, d.tyName = some t → isInt t = some b → kitB t "int" = some b := fun d t b h => by
  have : t = "NoneType" ∨ t = "bool" ∨ t = "int" ∨ t = "str" ∨ t = "tuple" ∨ t = "list" ∨ t = "dict" := by
    cases d <;> first | (cases h; simp) | cases h
  rcases this with rfl | rfl | rfl | rfl | rfl | rfl | rfl
  · intro q; rw [← q]; decide +kernel
  · intro q; rw [← q]; decide +kernel
  · intro q; rw [← q]; decide +kernel
  · intro q; rw [← q]; decide +kernel
  · intro q; rw [← q]; decide +kernel
  · intro q; rw [← q]; decide +kernel
  · intro q; rw [← q]; decide +kernel
theorem hf_bool : ∀ d : D, ∀ t b, d.tyName = some t → isOnly "bool" t = some b → kitB t "bool" = some b := fun d t b h => by
  have : t = "NoneType" ∨ t = "bool" ∨ t = "int" ∨ t = "str" ∨ t = "tuple" ∨ t = "list" ∨ t = "dict" := by
    cases d <;> first | (cases h; simp) | cases h
  rcases this with rfl | rfl | rfl | rfl | rfl | rfl | rfl <;> (intro q; rw [← q]; decide +kernel)
theorem hf_str : ∀ d : D, ∀ t b, d.tyName = some t → isOnly "str" t = some b → kitB t "str" = some b := fun d t b h => by
  have : t = "NoneType" ∨ t = "bool" ∨ t = "int" ∨ t = "str" ∨ t = "tuple" ∨ t = "list" ∨ t = "dict" := by
    cases d <;> first | (cases h; simp) | cases h
  rcases this with rfl | rfl | rfl | rfl | rfl | rfl | rfl <;> (intro q; rw [← q]; decide +kernel)
theorem hf_tuple : ∀ d : D, ∀ t b, d.tyName = some t → isOnly "tuple" t = some b → kitB t "tuple" = some b := fun d t b h => by
  have : t = "NoneType" ∨ t = "bool" ∨ t = "int" ∨ t = "str" ∨ t = "tuple" ∨ t = "list" ∨ t = "dict" := by
    cases d <;> first | (cases h; simp) | cases h
  rcases this with rfl | rfl | rfl | rfl | rfl | rfl | rfl <;> (intro q; rw [← q]; decide +kernel)
theorem hf_list : ∀ d : D, ∀ t b, d.tyName = some t → isOnly "list" t = some b → kitB t "list" = some b := fun d t b h => by
  have : t = "NoneType" ∨ t = "bool" ∨ t = "int" ∨ t = "str" ∨ t = "tuple" ∨ t = "list" ∨ t = "dict" := by
    cases d <;> first | (cases h; simp) | cases h
  rcases this with rfl | rfl | rfl | rfl | rfl | rfl | rfl <;> (intro q; rw [← q]; decide +kernel)

/-! ### int(x), tuple(x), list(x) -/
def oInt : O1 := fun x R => match x with
  | .int i => R (.d (.int i))
  | .bl b => R (.d (.int (if b then 1 else 0)))
  | _ => False
theorem cs_int : Call1S K (fun xs H Q => (∃ i, xs = [.int i] ∧ Q (.int i) H) ∨ ∃ k, xs = [.bl k] ∧ Q (.int (if k then 1 else 0)) H) oInt := fun G U H μ x d R Q b l h k => by
  cases d with
  | int i => cases l.int; exact .inl ⟨i, rfl, k.int b h⟩
  | bl c => cases l.bl; exact .inr ⟨c, rfl, k.int b h⟩
  | _ => exact h.elim
def oTuple : O1 := fun x R => match x with
  | .lst ds => R (.d (.tup ds))
  | .tup ds => R (.d (.tup ds))
  | _ => False
theorem cs_tuple : Call1S K (fun xs H Q => ∃ p ys, xs = [.ref p] ∧ ((SqL K H p ys ∧ ∀ l, H l = none → Q (.ref l) (upd H l (.tup ys))) ∨ (SqT K H p ys ∧ Q (.ref p) H))) oTuple := fun G U H μ x d R Q b l h k => by
  cases d with
  | lst ds =>
    obtain ⟨a, xs, rfl, h1, h2⟩ := l.lst b
    exact ⟨a, xs, rfl, .inl ⟨h1, fun p hp => k.tup b h2 h hp⟩⟩
  | tup ds =>
    obtain ⟨a, xs, e, h1, h2⟩ := l.tup b
    subst e
    refine ⟨a, xs, rfl, .inr ⟨h1, ?_⟩⟩
    rcases l with d | ⟨_, y, _, hh, hd⟩
    · exact k.dv b d h
    · cases y <;> first | exact hh.elim | cases hd
  | _ => exact h.elim
def oList : O1 := fun x R => match x with
  | .lst ds => R (.l ds)
  | .tup ds => R (.l ds)
  | _ => False
theorem cs_list : Call1S K (fun xs H Q => ∃ p ys, xs = [.ref p] ∧ (SqL K H p ys ∨ SqT K H p ys) ∧ ∀ l, H l = none → Q (.ref l) (upd H l (.lst ys))) oList := fun G U H μ x d R Q b l h k => by
  cases d with
  | lst ds =>
    obtain ⟨a, xs, rfl, h1, h2⟩ := l.lst b
    exact ⟨a, xs, rfl, .inl h1, fun p hp => k.lst b h2 h hp⟩
  | tup ds =>
    obtain ⟨a, xs, rfl, h1, h2⟩ := l.tup b
    exact ⟨a, xs, rfl, .inr h1, fun p hp => k.lst b h2 h hp⟩
  | _ => exact h.elim

/-! ### slices -/
abbrev PhiO := S → (Option Int → S → Prop) → Prop
def liftO (K : PySem.W.Frag) (φ : PhiO) : TO := fun σ H Q => ∃ G U s R, DL.St K G U H σ s ∧ φ s R ∧ ∀ o s' G' H', R o s' → Same G G' → DL.St K G' U H' σ s' → Q o H'
def cutD {α : Type} (xs : List α) (lo hi : Option Int) : List α := (xs.drop (HT.sIx xs.length 0 lo)).take (HT.sIx xs.length xs.length hi - HT.sIx xs.length 0 lo)
theorem DVs.cut {G : Hp} {ds : List D} {vs : List V} (h : DVs K G ds vs) (lo hi : Option Int) : DVs K G (cutD ds lo hi) (cutV vs lo hi) := by
  unfold cutD cutV
  rw [h.len]
  exact (h.drop _).take _
abbrev O3 := D → Option Int → Option Int → (Sl → Prop) → Prop
def oSl : O3 := fun x lo hi R => match x with
  | .lst ds => R (.l (cutD ds lo hi))
  | .tup ds => R (.d (.tup (cutD ds lo hi)))
  | .str z => z.length ≤ sizeLine ∧ R (.d (.str (cutS z lo hi)))
  | _ => False
def rSl (K : PySem.W.Frag) : V → Option Int → Option Int → Hp → VK → Prop := fun x lo hi H Q => rSlL K x lo hi H Q ∨ rSlA K x lo hi H Q ∨ rSlS x lo hi H Q
theorem slr {X : Cx} : SlR X (rSl X.K) := sl_list.or (sl_tupA.or sl_str)
theorem os_sl {G U H : Hp} {μ : Mu} {x : V} {d : D} {lo hi : Option Int} {R : Sl → Prop} {Q : VK} (b : Base K G U H μ) (l : Lk K G H d x) (h : oSl d lo hi R) (k : Con K G U μ R Q) : rSl K x lo hi H Q := by
  cases d with
  | lst ds =>
    obtain ⟨a, xs, rfl, h1, h2⟩ := l.lst b
    exact .inl ⟨a, xs, rfl, h1, fun p hp => k.lst b (h2.cut lo hi) h hp⟩
  | tup ds =>
    obtain ⟨a, xs, e, h1, h2⟩ := l.tup b
    subst e
    refine .inr (.inl ⟨a, xs, rfl, h1, fun w => ?_, fun _ p hp => k.tup b (h2.cut lo hi) h hp⟩)
    have e : cutD ds lo hi = ds := by
      unfold cutD
      rw [h2.len, w.1, w.2]
      simp [← h2.len]
    have h : R (.d (.tup (cutD ds lo hi))) := h
    rw [e] at h
    rcases l with d | ⟨_, y, _, hh, hd⟩
    · exact k.dv b d h
    · cases y <;> first | exact hh.elim | cases hd
  | str z => cases l.str; exact .inr (.inr ⟨z, rfl, h.1, k.str b h.2⟩)
  | _ => exact h.elim
def pNone : PhiO := fun s R => R none s
def pSome (φ : PhiE) : PhiO := fun s R => φ s fun r s1 => match r with
  | .d (.int i) => R (some i) s1
  | _ => False
def eSl (φ : PhiE) (lo hi : PhiO) : PhiE := fun s R => φ s fun r s1 => lo s1 fun i s2 => hi s2 fun j s3 => lk r s3 fun x => oSl x i j fun r => R r s3
end
section
variable {X : Cx} {e : Expr} {φ φ2 : PhiE} {pos p2 : Pos} {lo hi : Option Expr} {πl πh : PhiO}
theorem dp_none : PO X none (liftO X.K pNone) := ⟨fun pins s σ H Q I ⟨G, U, s', R, hs, hr, k⟩ => po_none.run pins s σ H Q I (k _ _ _ _ hr (Same.refl _) hs)⟩
theorem dp_some (h : PE X e (liftE X.K φ)) : PO X (some e) (liftO X.K (pSome φ)) := ⟨fun pins s σ H Q I ⟨G, U, s', R, hs, hr, k⟩ => (po_some h).run pins s σ H Q I ⟨G, U, s', _, hs, hr, fun r s1 G1 H1 v q1 e1 hs1 hv1 => by
  cases r with
  | d d =>
    cases d with
    | int i => cases hv1; exact ⟨i, rfl, k _ _ _ _ q1 e1 hs1⟩
    | _ => exact q1.elim
  | _ => exact q1.elim⟩⟩
theorem de_sl (he : PE X e (liftE X.K φ)) (hl : PO X lo (liftO X.K πl)) (hh : PO X hi (liftO X.K πh)) : PE X (.Subscript e (.Slice lo hi none p2) pos) (liftE X.K (eSl φ πl πh)) :=
  (pe_slice slr he hl hh).imp fun σ H Q ⟨G, U, s, R, hs, hr, k⟩ => by
    refine ⟨G, U, s, _, hs, hr, fun r s1 G1 H1 v q1 e1 hs1 hv1 => ?_⟩
    obtain ⟨G1', e1', hs1', p1⟩ := pin_ok hs1 hv1
    refine ⟨G1', U, s1, _, hs1', q1, fun i s2 G2 H2 q2 e2 hs2 => ⟨G2, U, s2, _, hs2, q2, fun j s3 G3 H3 q3 e3 hs3 => ?_⟩⟩
    rw [← pin_lk] at q3
    obtain ⟨x, lx, q3⟩ := lk_ok hs3 (Pn.mono (e2.trans e3) p1) q3
    exact os_sl hs3.out lx q3 (con_ok hs3 (((e1.trans e1').trans e2).trans e3) k)
end

/-! ### own lists and dicts written -/
section
variable {K : PySem.W.Frag} {G U H : Hp} {σ : L2.St} {s : S} {i : Nat} {a : Addr}
/-- the object that slot i owns is written -/
theorem St.wr {o : HO} {x : Sl} (h : DL.St K G U H σ s) (ha : OwnAt σ s.ρ i a) (hx : Hd K G (upd H a o) a x) : DL.St K G U (upd H a o) σ (s.set i x) := by
  obtain ⟨h1, h2, h3, h4⟩ := h.own_facts ha
  have hi : i < s.ρ.length := by
    by_cases q : i < s.ρ.length
    · exact q
    · have := ha.1
      rw [get_ge _ _ (by omega)] at this
      cases this
  have ne : ∀ {b : Addr} {u : HO} {F : Hp}, F b = some u → F a = none → b ≠ a := fun {b u F} e n z => by rw [z, n] at e; cases e
  refine ⟨⟨fun b u e => by rw [upd_ne (ne e h1)]; exact h.base.sub b u e, fun b u e => by rw [upd_ne (ne e h2)]; exact h.base.usub b u e, h.base.ug, fun b u e => ?_, h.base.bx⟩, ?_, fun j => ?_, fun j k b hjk q1 q2 => ?_⟩
  · obtain ⟨g1, g2⟩ := h.base.mu b u e
    refine ⟨g1, g2.mono (Same.refl _) ?_⟩
    rw [upd_ne]
    intro z
    have e : s.μ b = some u := e
    rw [z, h3] at e
    cases e
  · show (put s.ρ i x).length = σ.length
    rw [put_len]
    exact h.len
  · show SlOk K G U (upd H a o) s.μ _ (get (put s.ρ i x) j)
    rw [get_put]
    by_cases hj : j = i ∧ i < s.ρ.length
    · rw [if_pos hj, hj.1]
      exact .ofOwn ⟨a, join_of ha.2, h1, h2, h3, hx⟩
    · rw [if_neg hj]
      cases ho : (get s.ρ j).own with
      | true =>
        obtain ⟨b, e1, ob, g1, g2, g3, g4⟩ := h.ownAt ho
        refine .ofOwn ⟨b, join_of e1, g1, g2, g3, g4.mono (Same.refl _) ?_⟩
        rw [upd_ne]
        intro z
        subst z
        have : j ≠ i := fun w => hj ⟨w, hi⟩
        exact h.dis j i b this ob ha
      | false =>
        have hs := h.slot j
        cases e' : get s.ρ j with
        | no => exact trivial
        | d d => rw [e'] at hs; exact hs
        | b m => rw [e'] at hs; exact hs.elim
        | l ds => rw [e'] at ho; cases ho
        | k ks ds => rw [e'] at ho; cases ho
        | t ks ds => rw [e'] at ho; cases ho
  · have back : ∀ {m : Nat}, OwnAt σ (put s.ρ i x) m b → OwnAt σ s.ρ m b := fun {m} ⟨g1, g2⟩ => by
      by_cases hm : m = i
      · subst hm
        have : b = a := by
          have g3 := ha.2.symm.trans g2
          injection g3 with g3
          injection g3 with g3
          injection g3 with g3
          exact g3.symm
        rw [this]
        exact ha
      · rw [get_put, if_neg (fun z => hm z.1)] at g1
        exact ⟨g1, g2⟩
    exact h.dis j k b hjk (back q1) (back q2)
/-- what slot i owns, kept through what comes -/
theorem own_there (h : DL.St K G U H σ s) {ds : List D} (e : get s.ρ i = .l ds) : ∃ a xs, σ[i]? = some (some (.ref a)) ∧ OwnAt σ s.ρ i a ∧ H a = some (.lst xs) ∧ DVs K G ds xs := by
  obtain ⟨a, e1, oa, h1, h2, h3, h4⟩ := h.ownAt (i := i) (by rw [e]; rfl)
  rw [e] at h4
  obtain ⟨xs, q1, q2⟩ := h4
  exact ⟨a, xs, e1, oa, q1, q2⟩
theorem own_thereK (h : DL.St K G U H σ s) {ks : List Key} {ds : List D} (e : get s.ρ i = .k ks ds) : ∃ a xs, σ[i]? = some (some (.ref a)) ∧ OwnAt σ s.ρ i a ∧ H a = some (.dK (ks.zip xs)) ∧ ks.length = xs.length ∧ DVs K G ds xs := by
  obtain ⟨a, e1, oa, h1, h2, h3, h4⟩ := h.ownAt (i := i) (by rw [e]; rfl)
  rw [e] at h4
  obtain ⟨xs, q1, q2, q3⟩ := h4
  exact ⟨a, xs, e1, oa, q1, q2, q3⟩
end
/-- x.append(e), x a list that slot i owns -/
def sApp (i : Nat) (φ : PhiE) : PhiS := fun Δ s => match get s.ρ i with
  | .l _ => φ s fun r s1 => fz r s1 fun d s2 => match get s2.ρ i with
    | .l ds => ds.length < sizeLine ∧ Δ.nx (s2.set i (.l (ds ++ [d])))
    | _ => False
  | _ => False
section
variable {X : Cx} {e : Expr} {φ φ2 : PhiE} {pos p2 : Pos} {i : Nat}
theorem ds_app {o : Expr} {apos cpos : Pos} (ho : PE X o (tVar i)) (he : PE X e (liftE X.K φ))
    (hbase : attributeBase o "append" X.env (eval o X.env) = eval o X.env := by rfl) (hline : (apos.endLine == cpos.line) = true := by rfl) (hs : starEach [e] X.env = [(false, eval e X.env)] := by rfl) (hsw : swapsWith (.Call (.Attribute o "append" apos) [e] [] cpos) none pos.line X.env = pure false := by rfl)
    (hfew : ((backTo cpos (starEach [e] X.env)).all (fun x => !x.1) && (backToKw cpos (keywordEach [] X.env)).all (fun x => x.1.isSome) && decide ([e].length + ([] : List Keyword).length + (if ([] : List Keyword).isEmpty then 0 else 1) < 30)) = true := by rfl) :
    PS X (.Expr (.Call (.Attribute o "append" apos) [e] [] cpos) pos) (liftS X.K (sApp i φ)) :=
  (ps_expr (pe_bm PySem.F.plainAttrs_list PySem.F.slot_list_append PySem.F.type_list_append mt_append ho (pa_cons he pa_nil (by rw [hs] <;> rfl)) hbase hfew hline (by rw [hs] <;> rfl) rfl) hsw).imp fun E σ H ⟨G, U, s, Δ, hst, hr, k⟩ => by
    unfold sApp at hr
    cases e0 : get s.ρ i with
    | l ds0 =>
      rw [e0] at hr
      obtain ⟨a, xs, q1, q2, q3, q4⟩ := own_there hst e0
      refine ⟨.ref a, q1, .inl ⟨rfl, xs, SqL.of q3⟩, G, U, s, _, hst, hr, fun r s1 G1 H1 v r1 e1 hs1 hv1 => ?_⟩
      obtain ⟨G1', e1', hs1', d1⟩ := frz_ok hs1 hv1
      have r1 : (match get (frz s1 r).2.ρ i with | .l ds => ds.length < sizeLine ∧ Δ.nx ((frz s1 r).2.set i (.l (ds ++ [(frz s1 r).1]))) | _ => False) := r1
      cases e2 : get (frz s1 r).2.ρ i with
      | l ds =>
        rw [e2] at r1
        obtain ⟨a', xs', p1, p2, p3, p4⟩ := own_there hs1' e2
        have : a' = a := by
          rw [q1] at p1
          injection p1 with p1
          injection p1 with p1
          injection p1 with p1
          exact p1.symm
        subst this
        refine ⟨a', xs', v, rfl, rfl, p3, by rw [← p4.len]; exact r1.1, ?_⟩
        exact k.nx _ G1' _ σ r1.2 (e1.trans e1') (hs1'.wr p2 ⟨_, upd_same, p4.app (DVs.one d1)⟩)
      | _ => rw [e2] at r1; exact r1.elim
    | _ => rw [e0] at hr; exact hr.elim
/-- {} -/
def eDicK : PhiE := fun s R => R (.k [] []) s
theorem de_dnew : PE X (.Dict [] [] pos) (liftE X.K eDicK) := pe_dnewK.imp fun σ H Q ⟨G, U, s, R, hs, hr, k⟩ => fun p hp => by
  obtain ⟨h1, h2, h3, h4, h5⟩ := hs.new (o := .dK []) hp
  exact k _ s G _ _ hr (Same.refl _) h1 ⟨p, rfl, h2, h3, h4, ⟨[], upd_same, rfl, rfl⟩, h5⟩
/-- x[e1] = e, x a dict of the slot's own -/
def drep : List Key → List D → Key → D → List D
  | k :: ks, d :: ds, x, y => (if k = x then y else d) :: drep ks ds x y
  | _, _, _, _ => []
def dhas (ks : List Key) (x : Key) : Bool := ks.any fun k => decide (k = x)
theorem drep_ok {K : PySem.W.Frag} {G : Hp} {y : D} {w : V} (hw : DV K G y w) {x : Key} : ∀ {ks : List Key} {ds : List D} {vs : List V}, ks.length = vs.length → DVs K G ds vs →
    ∃ us, (ks.zip vs).map (fun kv => if kv.1 = x then (kv.1, w) else kv) = ks.zip us ∧ ks.length = us.length ∧ DVs K G (drep ks ds x y) us
  | [], _, _, hl, h => ⟨[], rfl, rfl, by cases ‹List D› <;> exact rfl⟩
  | k :: ks, [], vs, hl, h => by
    have h : vs = [] := h
    subst h
    simp at hl
  | k :: ks, d :: ds, vs, hl, ⟨v, r, h1, h2, h3⟩ => by
    subst h1
    obtain ⟨us, e1, e2, e3⟩ := drep_ok hw (x := x) (ks := ks) (ds := ds) (vs := r) (by simpa using hl) h3
    by_cases e : k = x
    · refine ⟨w :: us, ?_, by simp [e2], w, us, rfl, ?_, e3⟩
      · show (if k = x then (k, w) else (k, v)) :: (ks.zip r).map _ = (k, w) :: ks.zip us
        rw [if_pos e, e1]
      · show DV K G (if k = x then y else d) w
        rw [if_pos e]
        exact hw
    · refine ⟨v :: us, ?_, by simp [e2], v, us, rfl, ?_, e3⟩
      · show (if k = x then (k, w) else (k, v)) :: (ks.zip r).map _ = (k, v) :: ks.zip us
        rw [if_neg e, e1]
      · show DV K G (if k = x then y else d) v
        rw [if_neg e]
        exact h2
theorem any_zip {α : Type} (x : Key) : ∀ (ks : List Key) (vs : List α), ks.length = vs.length → ((ks.zip vs).any fun kv => decide (kv.1 = x)) = dhas ks x
  | [], _, _ => rfl
  | k :: ks, [], h => by simp at h
  | k :: ks, v :: vs, h => by
    show (decide (k = x) || (ks.zip vs).any fun kv => decide (kv.1 = x)) = (decide (k = x) || ks.any fun k => decide (k = x))
    rw [any_zip x ks vs (by simpa using h)]
    rfl
theorem dput_ok {K : PySem.W.Frag} {G : Hp} {y : D} {w : V} (hw : DV K G y w) {x : Key} {ks : List Key} {ds : List D} {vs : List V} (hl : ks.length = vs.length) (h : DVs K G ds vs) :
    ∃ us, putK (ks.zip vs) x w = (if dhas ks x = true then ks else ks ++ [x]).zip us ∧ (if dhas ks x = true then ks else ks ++ [x]).length = us.length ∧ DVs K G (if dhas ks x = true then drep ks ds x y else ds ++ [y]) us := by
  unfold putK
  rw [any_zip x ks vs hl]
  by_cases e : dhas ks x = true
  · rw [if_pos e, if_pos e, if_pos e]
    exact drep_ok hw hl h
  · rw [if_neg e, if_neg e, if_neg e]
    exact ⟨vs ++ [w], by rw [List.zip_append hl]; rfl, by simp [hl], h.app (DVs.one hw)⟩
def sDPut (i : Nat) (φk φ : PhiE) : PhiS := fun Δ s => φ s fun r s1 => fz r s1 fun d s2 => match get s2.ρ i with
  | .k _ _ => φk s2 fun rk s3 => lk rk s3 fun dk => match keyOf dk with
    | some x => match get s3.ρ i with
      | .k ks ds => ks.length < sizeLine ∧ Δ.nx (if dhas ks x = true then s3.set i (.k ks (drep ks ds x d)) else s3.set i (.k (ks ++ [x]) (ds ++ [d])))
      | _ => False
    | none => False
  | _ => False
theorem ds_dput {o e1 : Expr} {φk : PhiE} {pos' : Pos} (hu : X.A.units + 64 < cLine) (ho : PE X o (tVar i)) (hi : PE X e1 (liftE X.K φk)) (hv : PE X e (liftE X.K φ)) (hs : swapsWith e (some (.Subscript o e1 pos')) pos.line X.env = pure false := by rfl) :
    PS X (.Assign [.Subscript o e1 pos'] e pos) (liftS X.K (sDPut i φk φ)) :=
  (ps_dput (by omega) ho hi hv hs).imp fun E σ H ⟨G, U, s, Δ, hst, hr, k⟩ => by
    refine ⟨G, U, s, _, hst, hr, fun r s1 G1 H1 v q1 e1 hs1 hv1 => ?_⟩
    obtain ⟨G1', e1', hs1', d1⟩ := frz_ok hs1 hv1
    have q1 : (match get (frz s1 r).2.ρ i with
      | .k _ _ => φk (frz s1 r).2 fun rk s3 => lk rk s3 fun dk => match keyOf dk with
        | some x => match get s3.ρ i with
          | .k ks ds => ks.length < sizeLine ∧ Δ.nx (if dhas ks x = true then s3.set i (.k ks (drep ks ds x (frz s1 r).1)) else s3.set i (.k (ks ++ [x]) (ds ++ [(frz s1 r).1])))
          | _ => False
        | none => False
      | _ => False) := q1
    cases e0 : get (frz s1 r).2.ρ i with
    | k ks0 ds0 =>
      rw [e0] at q1
      obtain ⟨a, xs, p1, p2, p3, p4, p5⟩ := own_thereK hs1' e0
      refine ⟨.ref a, p1, G1', U, _, _, hs1', q1, fun rk s3 G3 H3 vk q3 e3 hs3 hv3 => ?_⟩
      obtain ⟨G3', e3', hs3', pn⟩ := pin_ok hs3 hv3
      rw [← pin_lk] at q3
      obtain ⟨dk, lx, q3⟩ := lk_ok hs3' pn q3
      cases ek : keyOf dk with
      | none => rw [ek] at q3; exact q3.elim
      | some x =>
        rw [ek] at q3
        have q3 : (match get s3.ρ i with
          | .k ks ds => ks.length < sizeLine ∧ Δ.nx (if dhas ks x = true then s3.set i (.k ks (drep ks ds x (frz s1 r).1)) else s3.set i (.k (ks ++ [x]) (ds ++ [(frz s1 r).1])))
          | _ => False) := q3
        cases e4 : get s3.ρ i with
        | k ks ds =>
          rw [e4] at q3
          obtain ⟨a', us, g1, g2, g3, g4, g5⟩ := own_thereK hs3' e4
          have : a' = a := by
            have z := p1.symm.trans g1
            injection z with z
            injection z with z
            injection z with z
            exact z.symm
          subst this
          have hw := (d1.mono e3).mono e3'
          obtain ⟨ws, z1, z2, z3⟩ := dput_ok (y := (frz s1 r).1) hw (x := x) (ks := ks) (ds := ds) g4 g5
          have hlen : (ks.zip us).length < sizeLine := by
            rw [List.length_zip]
            have := q3.1
            omega
          refine ⟨a', upd H3 a' (.dK (putK (ks.zip us) x v)), rfl, .inl ⟨ks.zip us, x, g3, keyOf_ok lx ek, hlen, rfl⟩, ?_⟩
          have fin : ∀ {S' : S}, DL.St X.K G3' U (upd H3 a' (.dK (putK (ks.zip us) x v))) σ S' → Δ.nx S' → E.nx σ (upd H3 a' (.dK (putK (ks.zip us) x v))) := fun {S'} a b => k.nx S' G3' _ σ b ((((e1.trans e1').trans e3).trans e3')) a
          have q4 : Δ.nx (if dhas ks x = true then s3.set i (.k ks (drep ks ds x (frz s1 r).1)) else s3.set i (.k (ks ++ [x]) (ds ++ [(frz s1 r).1]))) := q3.2
          by_cases hd : dhas ks x = true
          · rw [if_pos hd] at q4
            rw [if_pos hd] at z1 z2
            rw [if_pos hd] at z3
            exact fin (hs3'.wr (x := .k ks (drep ks ds x (frz s1 r).1)) g2 ⟨ws, by rw [z1]; exact upd_same, z2, z3⟩) q4
          · rw [if_neg hd] at q4
            rw [if_neg hd] at z1 z2
            rw [if_neg hd] at z3
            exact fin (hs3'.wr (x := .k (ks ++ [x]) (ds ++ [(frz s1 r).1])) g2 ⟨ws, by rw [z1]; exact upd_same, z2, z3⟩) q4
        | _ => rw [e4] at q3; exact q3.elim
    | _ => rw [e0] at q1; exact q1.elim
end
end DL
/-! DL8: comprehensions. -/
namespace DL
open PySem PySem.Spec PyProof.Rows L2

/-- the slots of a block's own names forgotten -/
def clr : List Nat → S → S
  | [], s => s
  | i :: r, s => clr r (s.set i .no)
def keepD : Sl → Sl
  | .d d => .d d
  | _ => .no
theorem keepD_ok (x : Sl) : keepD x = .no ∨ ∃ d, keepD x = .d d ∧ x = .d d := by
  cases x <;> first | exact .inl rfl | exact .inr ⟨_, rfl, rfl⟩
/-- .. and given back what they held, where it was a tree -/
def bck : List Nat → S → S → S
  | [], _, s => s
  | i :: r, s0, s => bck r s0 (s.set i (keepD (get s0.ρ i)))
def lcL (vs : List Nat) (s0 : S) (γ : PhiG) (τ : PhiT) (φ : PhiE) (R : Sl → S → Prop) : List D → List D → S → Prop
  | [], acc, s => R (.l acc) (bck vs s0 s)
  | d :: ds, acc, s => γ d s fun s1 => τ s1 fun b s2 => if b = true then φ s2 fun r s3 => fz r s3 fun y s4 => acc.length < sizeLine ∧ lcL vs s0 γ τ φ R ds (acc ++ [y]) (clr vs s4) else lcL vs s0 γ τ φ R ds acc (clr vs s2)
def eLc (π : PhiI) (vs : List Nat) (γ : PhiG) (τ : PhiT) (φ : PhiE) : PhiE := fun s R => π s fun ds s1 => lcL vs s1 γ τ φ R ds [] (clr vs s1)

section
variable {K : PySem.W.Frag} {G G' U H H' : Hp} {σ : L2.St} {s s0 : S} {vs : List Nat} {p : Addr}
theorem clr_get : ∀ (vs : List Nat) (s : S) (j : Nat), get (clr vs s).ρ j = if j ∈ vs then .no else get s.ρ j
  | [], s, j => by simp [clr]
  | i :: r, s, j => by
    show get (clr r (s.set i .no)).ρ j = _
    rw [clr_get r (s.set i .no) j]
    show (if j ∈ r then Sl.no else get (put s.ρ i .no) j) = _
    rw [get_put]
    by_cases h1 : j ∈ r
    · simp [h1]
    · by_cases h2 : j = i
      · subst h2
        by_cases h3 : j < s.ρ.length
        · simp [h1, h3]
        · have := get_ge s.ρ j (by omega)
          simp [h1, h3, this]
      · simp [h1, h2]
theorem clr_mu : ∀ (vs : List Nat) (s : S), (clr vs s).μ = s.μ
  | [], s => rfl
  | i :: r, s => clr_mu r (s.set i .no)
theorem clr_len : ∀ (vs : List Nat) (s : S), (clr vs s).ρ.length = s.ρ.length
  | [], s => rfl
  | i :: r, s => (clr_len r (s.set i .no)).trans (put_len s.ρ i .no)
theorem bck_mu : ∀ (vs : List Nat) (s0 s : S), (bck vs s0 s).μ = s.μ
  | [], _, s => rfl
  | i :: r, s0, s => bck_mu r s0 _
theorem bck_len : ∀ (vs : List Nat) (s0 s : S), (bck vs s0 s).ρ.length = s.ρ.length
  | [], _, s => rfl
  | i :: r, s0, s => (bck_len r s0 _).trans (put_len _ _ _)
theorem bck_get : ∀ (vs : List Nat) (s0 s : S) (j : Nat), (j ∉ vs ∧ get (bck vs s0 s).ρ j = get s.ρ j) ∨ (j ∈ vs ∧ (get (bck vs s0 s).ρ j = .no ∨ ∃ d, get (bck vs s0 s).ρ j = .d d ∧ get s0.ρ j = .d d))
  | [], s0, s, j => .inl ⟨by simp, rfl⟩
  | i :: r, s0, s, j => by
    have step : ∀ x : Sl, (x = .no ∨ ∃ d, x = .d d ∧ get s0.ρ i = .d d) → (j ∉ i :: r ∧ get (bck r s0 (s.set i x)).ρ j = get s.ρ j) ∨ (j ∈ i :: r ∧ (get (bck r s0 (s.set i x)).ρ j = .no ∨ ∃ d, get (bck r s0 (s.set i x)).ρ j = .d d ∧ get s0.ρ j = .d d)) := fun x hx => by
      rcases bck_get r s0 (s.set i x) j with ⟨h1, h2⟩ | ⟨h1, h2⟩
      · have e : get (s.set i x).ρ j = if j = i ∧ i < s.ρ.length then x else get s.ρ j := get_put s.ρ i j x
        rw [e] at h2
        by_cases hj : j = i
        · subst hj
          refine .inr ⟨by simp, ?_⟩
          by_cases hl : j < s.ρ.length
          · rw [if_pos ⟨rfl, hl⟩] at h2
            rw [h2]
            rcases hx with rfl | ⟨d, rfl, hd⟩
            · exact .inl rfl
            · exact .inr ⟨d, rfl, hd⟩
          · rw [if_neg (fun z => hl z.2), get_ge s.ρ j (by omega)] at h2
            exact .inl h2
        · rw [if_neg (fun z => hj z.1)] at h2
          exact .inl ⟨by simp [hj, h1], h2⟩
      · exact .inr ⟨by simp [h1], h2⟩
    exact step (keepD (get s0.ρ i)) (keepD_ok _)
theorem wipe_get : ∀ {vs : List Nat} {σ : L2.St} {i : Nat} {v : V}, (wipe σ vs)[i]? = some (some v) ↔ σ[i]? = some (some v) ∧ i ∉ vs := fun {vs σ i v} => by
  refine ⟨wipe_some, fun ⟨h1, h2⟩ => ?_⟩
  rw [wipe_out h2]
  exact h1
theorem own_clr {i : Nat} {a : Addr} : OwnAt (wipe σ vs) (clr vs s).ρ i a → OwnAt σ s.ρ i a := fun ⟨h1, h2⟩ => by
  obtain ⟨h3, h4⟩ := wipe_get.mp h2
  rw [clr_get, if_neg h4] at h1
  exact ⟨h1, h3⟩
/-- into the block -/
theorem St.into (h : DL.St K G U H σ s) : DL.St K G U H (wipe σ vs) (clr vs s) := by
  refine ⟨by rw [clr_mu]; exact h.base, by rw [clr_len, wipe_length]; exact h.len, fun j => ?_, fun i j a hij q1 q2 => h.dis i j a hij (own_clr q1) (own_clr q2)⟩
  rw [clr_get, clr_mu]
  by_cases hj : j ∈ vs
  · rw [if_pos hj]
    exact trivial
  · rw [if_neg hj, wipe_out hj]
    exact h.slot j
/-- once more: from a turn's end to the next one's start -/
theorem St.again (h : DL.St K G U H (wipe σ vs) s) : DL.St K G U H (wipe σ vs) (clr vs s) := by
  refine ⟨by rw [clr_mu]; exact h.base, by rw [clr_len]; exact h.len, fun j => ?_, fun i j a hij q1 q2 => h.dis i j a hij ?_ ?_⟩
  · rw [clr_get, clr_mu]
    by_cases hj : j ∈ vs
    · rw [if_pos hj]
      exact trivial
    · rw [if_neg hj]
      exact h.slot j
  · have := q1.1
    rw [clr_get] at this
    split at this
    · cases this
    · exact ⟨this, q1.2⟩
  · have := q2.1
    rw [clr_get] at this
    split at this
    · cases this
    · exact ⟨this, q2.2⟩
/-- out of the block -/
theorem St.outof {G0 : Hp} {U0 H0 : Hp} (h0 : DL.St K G0 U0 H0 σ s0) (e : Same G0 G) (h : DL.St K G U H (wipe σ vs) s) : DL.St K G U H σ (bck vs s0 s) := by
  have back : ∀ {i : Nat} {a : Addr}, OwnAt σ (bck vs s0 s).ρ i a → OwnAt (wipe σ vs) s.ρ i a := fun {i a} ⟨q1, q2⟩ => by
    rcases bck_get vs s0 s i with ⟨h1, h2⟩ | ⟨h1, h2 | ⟨d, h2, _⟩⟩
    · rw [h2] at q1
      exact ⟨q1, wipe_get.mpr ⟨q2, h1⟩⟩
    · rw [h2] at q1
      cases q1
    · rw [h2] at q1
      cases q1
  refine ⟨by rw [bck_mu]; exact h.base, by rw [bck_len, h.len, wipe_length], fun j => ?_, fun i j a hij q1 q2 => h.dis i j a hij (back q1) (back q2)⟩
  rw [bck_mu]
  rcases bck_get vs s0 s j with ⟨h1, h2⟩ | ⟨h1, h2 | ⟨d, h2, h3⟩⟩
  · rw [h2, ← wipe_out (σ := σ) h1]
    exact h.slot j
  · rw [h2]
    exact trivial
  · rw [h2]
    have := h0.slot j
    rw [h3] at this
    obtain ⟨v, q1, q2⟩ := this
    exact ⟨v, q1, q2.mono e⟩
theorem only_wipe {ws : List Nat} {σ' : L2.St} (h : Only ws (wipe σ vs) σ') (hl : σ'.length = σ.length) (hw : ∀ i ∈ ws, i ∈ vs) : wipe σ' vs = wipe σ vs := by
  apply List.ext_getElem?
  intro i
  by_cases hi : i ∈ vs
  · have a : ∀ τ : L2.St, (wipe τ vs)[i]? = some none ∨ (wipe τ vs)[i]? = none := fun τ => by
      cases e : (wipe τ vs)[i]? with
      | none => exact .inr rfl
      | some o =>
        cases o with
        | none => exact .inl rfl
        | some v => exact absurd hi (wipe_some e).2
    have l1 : (wipe σ' vs).length = (wipe σ vs).length := by rw [wipe_length, wipe_length, hl]
    rcases a σ' with h1 | h1
    · rcases a σ with h2 | h2
      · rw [h1, h2]
      · have : (wipe σ vs).length ≤ i := List.getElem?_eq_none_iff.mp h2
        rw [← l1] at this
        rw [List.getElem?_eq_none_iff.mpr this] at h1
        cases h1
    · rcases a σ with h2 | h2
      · have : (wipe σ' vs).length ≤ i := List.getElem?_eq_none_iff.mp h1
        rw [l1] at this
        rw [List.getElem?_eq_none_iff.mpr this] at h2
        cases h2
      · rw [h1, h2]
  · rw [wipe_out hi, wipe_out hi]
    have := h i fun z => hi (hw i z)
    rw [this, wipe_out hi]
/-- one that is no one's, kept aside -/
theorem St.aside {o : HO} (no : ∀ xs, o ≠ .tup xs) (h : DL.St K G U H σ s) (hp : H p = some o) (hg : G p = none) (hm : s.μ p = none) (hn : ∀ i, ¬ OwnAt σ s.ρ i p) : DL.St K G (upd U p o) H σ s := by
  refine ⟨⟨h.base.sub, fun b u e => ?_, fun b u e => ?_, h.base.mu, fun b xs e => ?_⟩, h.len, fun j => ?_, h.dis⟩
  · by_cases hb : b = p
    · subst hb
      rw [upd_same] at e
      cases e
      exact hp
    · rw [upd_ne hb] at e
      exact h.base.usub b u e
  · by_cases hb : b = p
    · subst hb
      exact ⟨hg, hm⟩
    · rw [upd_ne hb] at e
      exact h.base.ug b u e
  · by_cases hb : b = p
    · subst hb
      rw [upd_same] at e
      exact no xs (Option.some.inj e)
    · rw [upd_ne hb] at e
      exact h.base.bx b xs e
  · have hs := h.slot j
    cases hx : (get s.ρ j).own with
    | true =>
      obtain ⟨a, e1, oa, h1, h2, h3, h4⟩ := h.ownAt hx
      refine .ofOwn ⟨a, join_of e1, h1, ?_, h3, h4⟩
      rw [upd_ne]
      · exact h2
      · intro z
        subst z
        exact hn j oa
    | false =>
      cases e' : get s.ρ j with
      | no => exact trivial
      | d d => rw [e'] at hs; exact hs
      | b m => rw [e'] at hs; exact hs.elim
      | l ds => rw [e'] at hx; cases hx
      | k ks ds => rw [e'] at hx; cases hx
      | t ks ds => rw [e'] at hx; cases hx
theorem St.unaside {o : HO} (h : DL.St K G (upd U p o) H σ s) (hu : U p = none) : DL.St K G U H σ s := by
  have un : ∀ b u, U b = some u → upd U p o b = some u := fun b u e => by
    rw [upd_ne (ne_of_none e hu)]
    exact e
  have non : ∀ b, upd U p o b = none → U b = none := fun b e => by
    cases q : U b with
    | none => rfl
    | some u => rw [un b u q] at e; cases e
  refine ⟨⟨h.base.sub, fun b u e => h.base.usub b u (un b u e), fun b u e => h.base.ug b u (un b u e), h.base.mu, fun b xs e => h.base.bx b xs (un b _ e)⟩, h.len, fun j => ?_, h.dis⟩
  have hs := h.slot j
  cases hx : (get s.ρ j).own with
  | true =>
    obtain ⟨a, e1, oa, h1, h2, h3, h4⟩ := h.ownAt hx
    exact .ofOwn ⟨a, join_of e1, h1, non a h2, h3, h4⟩
  | false =>
    cases e' : get s.ρ j with
    | no => exact trivial
    | d d => rw [e'] at hs; exact hs
    | b m => rw [e'] at hs; exact hs.elim
    | l ds => rw [e'] at hx; cases hx
    | k ks ds => rw [e'] at hx; cases hx
    | t ks ds => rw [e'] at hx; cases hx
theorem St.aside_no {o : HO} {i : Nat} (h : DL.St K G (upd U p o) H σ s) : ¬ OwnAt σ s.ρ i p := fun hi => by
  have := (h.own_facts hi).2.1
  rw [upd_same] at this
  cases this
/-- what is aside is written -/
theorem St.asideWr {o o' : HO} (no : ∀ xs, o' ≠ .tup xs) (h : DL.St K G (upd U p o) H σ s) : DL.St K G (upd U p o') (upd H p o') σ s := by
  have hug := h.base.ug p o upd_same
  have nown : ∀ i, ¬ OwnAt σ s.ρ i p := fun i => h.aside_no
  refine ⟨⟨fun b u e => ?_, fun b u e => ?_, fun b u e => ?_, fun b u e => ?_, fun b xs e => ?_⟩, h.len, fun j => ?_, h.dis⟩
  · rw [upd_ne (ne_of_none e hug.1)]
    exact h.base.sub b u e
  · by_cases hb : b = p
    · subst hb
      rw [upd_same] at e ⊢
      exact e
    · rw [upd_ne hb] at e ⊢
      exact h.base.usub b u (by rw [upd_ne hb]; exact e)
  · by_cases hb : b = p
    · subst hb
      exact hug
    · rw [upd_ne hb] at e
      exact h.base.ug b u (by rw [upd_ne hb]; exact e)
  · obtain ⟨g1, g2⟩ := h.base.mu b u e
    refine ⟨g1, g2.mono (Same.refl _) ?_⟩
    rw [upd_ne]
    intro z
    rw [z, hug.2] at e
    cases e
  · by_cases hb : b = p
    · subst hb
      rw [upd_same] at e
      exact no xs (Option.some.inj e)
    · rw [upd_ne hb] at e
      exact h.base.bx b xs (by rw [upd_ne hb]; exact e)
  · have hs := h.slot j
    cases hx : (get s.ρ j).own with
    | true =>
      obtain ⟨a, e1, oa, h1, h2, h3, h4⟩ := h.ownAt hx
      have hap : a ≠ p := fun z => by subst z; exact nown j oa
      rw [upd_ne hap] at h2
      exact .ofOwn ⟨a, join_of e1, h1, by rw [upd_ne hap]; exact h2, h3, h4.mono (Same.refl _) (by rw [upd_ne hap])⟩
    | false =>
      cases e' : get s.ρ j with
      | no => exact trivial
      | d d => rw [e'] at hs; exact hs
      | b m => rw [e'] at hs; exact hs.elim
      | l ds => rw [e'] at hx; cases hx
      | k ks ds => rw [e'] at hx; cases hx
      | t ks ds => rw [e'] at hx; cases hx
theorem only_len {ws : List Nat} {σ' : L2.St} {s' : S} (h : DL.St K G U H σ' s') (h0 : DL.St K G' U H' σ s0) (e : s'.ρ.length = s0.ρ.length) : σ'.length = σ.length := by rw [← h.len, ← h0.len, e]
end
/-- a target that keeps the number of slots -/
def KeepG (γ : PhiG) : Prop := ∀ d s R, γ d s R → γ d s fun s' => s'.ρ.length = s.ρ.length ∧ R s'
def KeepGs (γ : PhiGs) : Prop := ∀ d s R, γ d s R → γ d s fun s' => s'.ρ.length = s.ρ.length ∧ R s'
theorem keep_n {i : Nat} : KeepG (gN i) := fun d s R h => ⟨put_len _ _ _, h⟩
def MonoGs (γ : PhiGs) : Prop := ∀ d s R R', (∀ s, R s → R' s) → γ d s R → γ d s R'
def MonoG (γ : PhiG) : Prop := ∀ d s R R', (∀ s, R s → R' s) → γ d s R → γ d s R'
theorem mono_n {i : Nat} : MonoG (gN i) := fun d s R R' h q => h _ q
theorem mono_nil : MonoGs gsNil := fun ds s R R' h q => by
  cases ds with
  | nil => exact h _ q
  | cons d r => exact q
theorem mono_cons {γ : PhiG} {γs : PhiGs} (h1 : MonoG γ) (h2 : MonoGs γs) : MonoGs (gsCons γ γs) := fun ds s R R' h q => by
  cases ds with
  | nil => exact q
  | cons d r => exact h1 d s _ _ (fun s1 q1 => h2 r s1 _ _ h q1) q
theorem mono_t {n : Nat} {γs : PhiGs} (h : MonoGs γs) : MonoG (gT n γs) := fun d s R R' hr q => by
  cases d with
  | tup ds =>
    have q : if ds.length = n then γs ds s R else False := q
    show if ds.length = n then γs ds s R' else False
    by_cases e : ds.length = n
    · rw [if_pos e] at q ⊢
      exact h ds s R R' hr q
    · rw [if_neg e] at q
      exact q.elim
  | _ => exact q
theorem keep_nil : KeepGs gsNil := fun ds s R q => by
  cases ds with
  | nil => exact ⟨rfl, q⟩
  | cons d r => exact q
theorem keep_cons {γ : PhiG} {γs : PhiGs} (m : MonoG γ) (h1 : KeepG γ) (h2 : KeepGs γs) (m2 : MonoGs γs) : KeepGs (gsCons γ γs) := fun ds s R q => by
  cases ds with
  | nil => exact q
  | cons d r => exact m d s _ _ (fun s1 ⟨e1, q1⟩ => m2 r s1 _ _ (fun s2 ⟨e2, q2⟩ => ⟨e2.trans e1, q2⟩) (h2 r s1 _ q1)) (h1 d s _ q)
theorem keep_t {n : Nat} {γs : PhiGs} (h : KeepGs γs) : KeepG (gT n γs) := fun d s R q => by
  cases d with
  | tup ds =>
    have q : if ds.length = n then γs ds s R else False := q
    show if ds.length = n then γs ds s _ else False
    by_cases e : ds.length = n
    · rw [if_pos e] at q ⊢
      exact h ds s R q
    · rw [if_neg e] at q
      exact q.elim
  | _ => exact q
section
variable {X : Cx} {γ : PhiG} {τ : PhiT} {φ : PhiE} {π : PhiI} {vs ws : List Nat}
/-- what a comprehension is: over D's own list -/
theorem lc_of {σ : L2.St} {H : Hp} {Q : VK} (hk : KeepG γ) (hw : ∀ i ∈ ws, i ∈ vs) (q : liftE X.K (eLc π vs γ τ φ) σ H Q) : tLc (liftI X.K π) (liftG X.K ws γ) (liftT X.K τ) (liftE X.K φ) vs σ H Q := by
  obtain ⟨G, U, s, R, hs, hr, k⟩ := q
  refine ⟨G, U, s, _, hs, hr, fun ds s1 G1 H1 J q1 e1 hs1 gv D hD => ?_⟩
  obtain ⟨n1, n2, n3, n4, n5⟩ := hs1.new (o := .lst []) hD
  have a1 := (n1.aside (fun _ z => by cases z) upd_same n2 n4 n5).into (vs := vs)
  refine ⟨fun i m H' => ∃ s' G' acc as, m = ds.length - i ∧ i ≤ ds.length ∧ Same G1 G' ∧ DL.St X.K G' (upd U D (.lst as)) H' (wipe σ vs) s' ∧ DVs X.K G' acc as ∧ lcL vs s1 γ τ φ R (ds.drop i) acc s',
    ⟨ds.length, clr vs s1, G1, [], [], by simp, Nat.zero_le _, Same.refl _, a1, rfl, by simpa using q1⟩, ?_⟩
  rintro i m H' ⟨s', G', acc, as, rfl, hi', e', hs', hacc, q⟩
  have hb := hs'.base
  by_cases hlt : i < ds.length
  · rw [List.drop_eq_getElem_cons hlt] at q
    refine .inr ⟨gv.go i H' G' _ s'.μ hlt e' hb, fun H2 => ∃ s2 G2 acc2 as2, Same G1 G2 ∧ DL.St X.K G2 (upd U D (.lst as2)) H2 (wipe σ vs) s2 ∧ DVs X.K G2 acc2 as2 ∧ lcL vs s1 γ τ φ R (ds.drop (i + 1)) acc2 s2,
      fun H2 ⟨s2, G2, acc2, as2, e2, hs2, hacc2, q2⟩ => ⟨ds.length - (i + 1), by omega, s2, G2, acc2, as2, rfl, hlt, e2, hs2, hacc2, q2⟩, fun x H2 y => ?_⟩
    obtain ⟨G2, e2, dv, st⟩ := gv.yld i H' G' _ s'.μ x H2 hlt e' hb y
    have hst := st _ s' rfl hs'
    refine ⟨G2, upd U D (.lst as), s', ds[i], _, hst, dv, hk _ _ _ q, fun s3 σ3 G3 H3 q3 e3 hs3 o3 => ?_⟩
    have hw3 : wipe σ3 vs = wipe σ vs := by
      refine only_wipe o3 ?_ hw
      rw [← hs3.len, q3.1, hst.len, wipe_length]
    refine ⟨hw3, ?_⟩
    refine ⟨G3, _, s3, _, hs3, q3.2, fun b s4 G4 H4 q4 e4 hs4 => ?_⟩
    have e14 : Same G1 G4 := ((e'.trans e2).trans e3).trans e4
    cases b with
    | true =>
      refine ⟨G4, _, s4, _, hs4, q4, fun r s5 G5 H5 v q5 e5 hs5 hv5 => ?_⟩
      obtain ⟨G6, e6, hs6, d6⟩ := frz_ok hs5 hv5
      have q5 : acc.length < sizeLine ∧ lcL vs s1 γ τ φ R (ds.drop (i + 1)) (acc ++ [(frz s5 r).1]) (clr vs (frz s5 r).2) := q5
      have ex : Same G' G6 := (((e2.trans e3).trans e4).trans e5).trans e6
      refine ⟨as, hs6.base.usub D _ upd_same, by rw [← hacc.len]; exact q5.1, clr vs (frz s5 r).2, G6, acc ++ [(frz s5 r).1], as ++ [v], (e14.trans e5).trans e6, ?_, (hacc.mono ex).app (DVs.one d6), q5.2⟩
      have := (hs6.asideWr (o' := .lst (as ++ [v])) (fun _ z => by cases z)).into (vs := vs)
      rw [hw3] at this
      exact this
    | false =>
      refine ⟨clr vs s4, G4, acc, as, e14, ?_, hacc.mono (((e2.trans e3).trans e4)), q4⟩
      have := hs4.into (vs := vs)
      rw [hw3] at this
      exact this
  · have : i = ds.length := by omega
    subst this
    rw [List.drop_length] at q
    refine .inl ⟨gv.stop H' G' _ s'.μ e' hb, ?_⟩
    have fin : DL.St X.K G' (upd U D (.lst as)) H' σ (bck vs s1 s') := St.outof hs1 e' hs'
    have hug := fin.base.ug D _ upd_same
    exact k (.l acc) (bck vs s1 s') G' H' (.ref D) q (e1.trans e') (fin.unaside n3) ⟨D, rfl, hug.1, n3, hug.2, ⟨as, fin.base.usub D _ upd_same, hacc⟩, fun j => fin.aside_no⟩
/-- tests of a comprehension: none, one -/
theorem dts_nil : PTs X [] (liftT X.K (fun s R => R true s)) := ⟨fun pins s σ H Q I ⟨G, U, s', R, hs, hr, k⟩ => pts_nil.run pins s σ H Q I (k _ _ _ _ hr (Same.refl _) hs)⟩
theorem dts_one {c : Expr} (h : PT X c (liftT X.K τ)) : PTs X [c] (liftT X.K τ) := pts_one h
theorem de_lc {elt tg iter : Expr} {ifs : List Expr} {scope : Scope} {own : List (Str × Nat)} {pos : Pos} (hc : X.calm = true) (hN : X.N.Nodup) (hi : PI X tg iter (liftI X.K π)) (ok : BlkOk X.N X.env.scope scope own) (hk : KeepG γ) (hw : ∀ i ∈ ws, i ∈ own.map (·.2))
    (hg : ∀ (s : Shared) (H : Hp) (C : Addr) (cl : List (Str × Addr)) (fp : List Addr), PG (X.blk s H scope (compEnvC scope cl C X.env) fp) tg (liftG X.K ws γ)) (ht : ∀ (s : Shared) (H : Hp) (C : Addr) (cl : List (Str × Addr)) (fp : List Addr), PTs (X.blk s H scope (compEnvC scope cl C X.env) fp) ifs (liftT X.K τ))
    (he : ∀ (s : Shared) (H : Hp) (C : Addr) (cl : List (Str × Addr)) (fp : List Addr), PE (X.blk s H scope (compEnvC scope cl C X.env) fp) elt (liftE X.K φ)) (hs : ∀ x, foldedSetIterable iter X.env x = pure x := by intro _; rfl) :
    PE X (.ListComp elt [⟨tg, iter, ifs, 0⟩] scope pos) (liftE X.K (eLc π (own.map (·.2)) γ τ φ)) :=
  (pe_lc hc hN hi ok hg ht he hs).imp fun _ _ _ q => lc_of hk hw q
theorem ds_setLc {i : Nat} {y : Str} {py : Pos} {elt tg iter : Expr} {ifs : List Expr} {scope : Scope} {own : List (Str × Nat)} {pos spos : Pos} (hc : X.calm = true) (hN : X.N.Nodup) (hy : X.N[i]? = some y) (hyl : X.env.scope.names.lookup y = some .local)
    (hsw : swapsWith (.ListComp elt [⟨tg, iter, ifs, 0⟩] scope pos) (some (.Name y py)) spos.line X.env = pure true) (hi : PI X tg iter (liftI X.K π)) (ok : BlkOk X.N X.env.scope scope own) (hk : KeepG γ) (hw : ∀ i ∈ ws, i ∈ own.map (·.2))
    (hg : ∀ (s : Shared) (H : Hp) (C : Addr) (cl : List (Str × Addr)) (fp : List Addr), PG (X.blk s H scope (compEnvC scope cl C X.env) fp) tg (liftG X.K ws γ)) (ht : ∀ (s : Shared) (H : Hp) (C : Addr) (cl : List (Str × Addr)) (fp : List Addr), PTs (X.blk s H scope (compEnvC scope cl C X.env) fp) ifs (liftT X.K τ))
    (he : ∀ (s : Shared) (H : Hp) (C : Addr) (cl : List (Str × Addr)) (fp : List Addr), PE (X.blk s H scope (compEnvC scope cl C X.env) fp) elt (liftE X.K φ)) (hs : ∀ x, foldedSetIterable iter X.env x = pure x := by intro _; rfl) :
    PS X (.Assign [.Name y py] (.ListComp elt [⟨tg, iter, ifs, 0⟩] scope pos) spos) (liftS X.K (sSet i (eLc π (own.map (·.2)) γ τ φ))) :=
  (ps_setLc hc hN hy hyl hsw hi ok hg ht he hs).imp fun E σ H ⟨G, U, s, Δ, hs, hr, k⟩ => lc_of (ws := ws) hk hw ⟨G, U, s, _, hs, hr, fun r s1 G1 H1 v q1 e1 hs1 hv1 => by
    obtain ⟨G', s', e', hs', q⟩ := st1_ok hs1 hv1 q1
    exact k.nx s' G' H1 _ q (e1.trans e') hs'⟩
end
end DL
/-! DL9: the drawing machine of the laws as one opaque thing. -/
namespace DL
open PySem PySem.Spec PyProof.Rows L2

/-- the promise with the machine's list in sight -/
def spDeal (K : PySem.W.Frag) : Sp := fun vs H Q _ => ∃ (a c : Addr) (ns : List Int) (m p g x : Int), vs = [.ref a, .int m] ∧ 0 < m ∧ m < 1073741824 ∧ SqL K H c (ns.map V.int) ∧ ns.length ≤ 63 ∧ H a = some (.lst [.ref c, .int p, .int g, .int x]) ∧ (0 ≤ p ∧ 0 ≤ g ∧ 0 ≤ x ∧ x < 2305843009213693951) ∧
  ∀ d p' g' x', 0 ≤ d → d < m → (0 ≤ p' ∧ 0 ≤ g' ∧ 0 ≤ x' ∧ x' < 2305843009213693951) → Q (.int d) (upd H a (.lst [.ref c, .int p', .int g', .int x']))
/-- .. and out of sight: any digit -/
def fnDeal : FD := fun ds μ R => ∃ m : Int, ds = [.dlr, .int m] ∧ 0 < m ∧ m < 1073741824 ∧ ∀ d : Int, 0 ≤ d → d < m → R (.d (.int d)) μ
def fnDealer : FD := fun ds μ R => ∃ ns : List Int, ds = [.lst (ns.map D.int)] ∧ ns.length ≤ 63 ∧ R (.d .dlr) μ

section
variable {P : Program} {w : World} {K : PySem.W.Frag} {mg : Str → Option Value} {base : Heap} {k : Nat} {f : Addr} {fd : FuncData}
theorem dlr_stable {a c : Addr} : ∀ h1 h2 : Heap, Dlr a c h1 → (∀ o, h1.get? a = some o → h2.get? a = some o) → Dlr a c h2 := fun h1 h2 ⟨p, g, m, t1, t2, t3, n, b1, b2, b3, b4, e⟩ k => ⟨p, g, m, t1, t2, t3, n, b1, b2, b3, b4, k _ e⟩
theorem dlr_of {H : Hp} {h : Heap} {a c : Addr} {p g x : Int} (hb : 0 ≤ p ∧ 0 ≤ g ∧ 0 ≤ x ∧ x < 2305843009213693951) (o : ObjOk P w H h a (.lst [.ref c, .int p, .int g, .int x])) : ObjOk P w H h a (.ext (Dlr a c)) := by
  obtain ⟨_, its, n, r, e⟩ := o
  cases r with
  | cons r0 r =>
    cases r with
    | cons r1 r =>
      cases r with
      | cons r2 r =>
        cases r with
        | cons r3 r =>
          cases r
          cases r0
          obtain ⟨t1, rfl⟩ := r1
          obtain ⟨t2, rfl⟩ := r2
          obtain ⟨t3, rfl⟩ := r3
          exact ⟨⟨p, g, x, t1, t2, t3, n, hb.1, hb.2.1, hb.2.2.1, hb.2.2.2, e⟩, ⟨_, e⟩, dlr_stable⟩
theorem of_dlr {H : Hp} {h : Heap} {a c : Addr} (o : ObjOk P w H h a (.ext (Dlr a c))) : ∃ p g x : Int, (0 ≤ p ∧ 0 ≤ g ∧ 0 ≤ x ∧ x < 2305843009213693951) ∧ ∀ H', ObjOk P w H' h a (.lst [.ref c, .int p, .int g, .int x]) := by
  obtain ⟨⟨p, g, x, t1, t2, t3, n, b1, b2, b3, b4, e⟩, _, _⟩ := o
  exact ⟨p, g, x, ⟨b1, b2, b3, b4⟩, fun H' => ⟨by show 4 ≤ sizeLine; decide, _, n, .cons rfl (.cons ⟨t1, rfl⟩ (.cons ⟨t2, rfl⟩ (.cons ⟨t3, rfl⟩ .nil))), e⟩⟩
/-- another view of one object -/
theorem HOk.view {H : Hp} {h : Heap} {a : Addr} {o o' : HO} (hk : HOk P w H h) (ha : H a = some o) (no : (∀ y, o ≠ .own y) ∧ ∀ xs, o ≠ .tup xs) (h' : ObjOk P w (upd H a o') h a o') : HOk P w (upd H a o') h := fun b u e => by
  by_cases hb : b = a
  · subst hb
    rw [upd_same] at e
    cases e
    exact h'
  · rw [upd_ne hb] at e
    refine (hk b u e).stay (fun c v _ q => q) (fun c q => ?_) fun c xs q => ?_
    · rw [upd_ne]
      · exact q
      · intro z
        rw [z, ha] at q
        exact no.1 b (Option.some.inj q)
    · rw [upd_ne]
      · exact q
      · intro z
        rw [z, ha] at q
        exact no.2 xs (Option.some.inj q)
theorem upd_back {H : Hp} {a : Addr} {o o' : HO} (h : H a = some o) : upd (upd H a o') a o = H := by
  rw [upd_upd]
  funext b
  by_cases hb : b = a
  · subst hb
    rw [upd_same, h]
  · rw [upd_ne hb]
theorem deal_view {ps : List Str} (hps : ps.length = 2) (F : FnOk P w K mg base CX0 k f fd ps (spDeal K)) : FnOk P w K mg base CX0 k f fd ps (spD K 2 fnDeal) := by
  refine ⟨fun vs H Q E h => (spD_len h).trans hps.symm, fun A outer s H args us vs Q E hr he hb hv hsp => ?_⟩
  obtain ⟨G, U, ds, μ, R, hbase, hd, hl, ⟨m, rfl, m0, m1, hR⟩, kont⟩ := hsp
  obtain ⟨v1, r1, rfl, ⟨a, c, ns, rfl, hGa, hc, hn⟩, v2, r2, rfl, rfl, rfl⟩ := hd
  have ha : H a = some (.ext (Dlr a c)) := hbase.sub _ _ hGa
  obtain ⟨p, g, x, hb4, hobj⟩ := of_dlr (he.hok a _ ha)
  have hca : c ≠ a ∨ ∃ o, K.lookup c = some o := by
    rcases hc with (h | ⟨o, h⟩) | ⟨o, its, n, h, _⟩
    · refine .inl fun z => ?_
      subst z
      rw [h] at hGa
      cases hGa
    · refine .inl fun z => ?_
      subst z
      rw [h] at hGa
      cases hGa
    · exact .inr ⟨o, h⟩
  have hc2 : SqL K (upd H a (.lst [.ref c, .int p, .int g, .int x])) c (ns.map V.int) := by
    have hcH := hbase.sub.seq hc
    rcases hcH with (h | ⟨o, h⟩) | h
    · refine .inl (.inl ?_)
      rw [upd_ne]
      · exact h
      · intro z
        rw [z, ha] at h
        cases h
    · refine .inl (.inr ⟨o, ?_⟩)
      rw [upd_ne]
      · exact h
      · intro z
        rw [z, ha] at h
        cases h
    · exact .inr h
  have noE : (∀ y, HO.ext (Dlr a c) ≠ .own y) ∧ ∀ xs, HO.ext (Dlr a c) ≠ .tup xs := ⟨fun y z => (by cases z), fun xs z => (by cases z)⟩
  have he2 : Env0 P w K mg base A outer s (upd H a (.lst [.ref c, .int p, .int g, .int x])) := by
    refine ⟨he.frames, he.mod, fun b o e => ⟨(he.bs b o e).1, ?_⟩, he.bsz, he.funs, fun b hb => ?_, HOk.view he.hok ha noE (hobj _), he.bare⟩
    · rw [upd_ne]
      · exact (he.bs b o e).2
      · intro z
        have := (he.bs b o e).2
        rw [z, ha] at this
        cases this
    · rw [upd_ne]
      · exact he.frf b hb
      · intro z
        have := he.frf b hb
        rw [z, ha] at this
        cases this
  refine codeAny_mono (F.run A outer s _ args us _ (fun v H' => ∃ d p' g' x', v = V.int d ∧ 0 ≤ d ∧ d < m ∧ (0 ≤ p' ∧ 0 ≤ g' ∧ 0 ≤ x' ∧ x' < 2305843009213693951) ∧ H' = upd (upd H a (.lst [.ref c, .int p, .int g, .int x])) a (.lst [.ref c, .int p', .int g', .int x'])) E hr he2 hb hv
    ⟨a, c, ns, m, p, g, x, rfl, m0, m1, hc2, hn, upd_same, hb4, fun d p' g' x' h1 h2 h3 => ⟨d, p', g', x', rfl, h1, h2, h3, rfl⟩⟩) fun r s' hq => ?_
  cases r with
  | error e => exact hq
  | ok fl =>
    cases fl with
    | next => exact hq
    | brk => exact hq
    | cont => exact hq
    | ret u =>
      obtain ⟨v, H', os, bare, un, hok, rv, d, p', g', x', rfl, d0, d1, b4, rfl⟩ := hq
      refine ⟨.int d, H, os, bare, ⟨fun b o e n hb hx => ?_, fun b o e n hb hx => ?_, fun _ _ _ n _ => n, fun b o e hx => un.there b o e hx, fun _ _ q => q, fun _ _ _ q => q, fun b ps q => ⟨#[], by rw [q]; simp⟩⟩, ?_, rv, ?_⟩
      · exact un.keep b o e (by rw [upd_ne (fun z => by rw [z, ha] at n; cases n)]; exact n) hb hx
      · exact un.slot b o e (by rw [upd_ne (fun z => by rw [z, ha] at n; cases n)]; exact n) hb hx
      · have hok2 := HOk.view (o' := .ext (Dlr a c)) hok upd_same ⟨fun y z => (by cases z), fun xs z => (by cases z)⟩ (dlr_of b4 (by
          obtain ⟨z, its, n, r, e⟩ := hok a _ upd_same
          exact ⟨z, its, n, r, e⟩))
        rw [upd_upd, upd_back ha] at hok2
        exact hok2
      · exact kont _ _ μ G H (hR d d0 d1) (Same.refl _) hbase rfl
theorem dealer_view {n : Nat} {ps : List Str} {F0 : FD} (F : FnOk P w K mg base CX0 k f fd ps (spD K 1 F0))
    (h0 : ∀ (ns : List Int) (μ : Mu), ns.length ≤ 63 → F0 [.lst (ns.map D.int)] μ fun r μ' => μ' = μ ∧ ∃ (ms : List Int) (x0 : Int), ms.length ≤ 63 ∧ (0 ≤ x0 ∧ x0 < 2305843009213693951) ∧ r = .l [.lst (ms.map D.int), .int 0, .int 0, .int x0]) : FnOk P w K mg base CX0 k f fd ps (spD K 1 fnDealer) := by
  refine ⟨fun vs H Q E h => ?_, fun A outer s H args us vs Q E hr he hb hv hsp => ?_⟩
  · obtain ⟨G, U, ds, μ, R, hbase, hd, hl, ⟨ns, rfl, hn, hR⟩, kont⟩ := h
    exact F.len vs H (fun _ _ => True) E ⟨G, U, _, μ, _, hbase, hd, hl, h0 ns μ hn, fun _ _ _ _ _ _ _ _ _ => trivial⟩
  obtain ⟨G, U, ds, μ, R, hbase, hd, hl, ⟨ns, rfl, hn, hR⟩, kont⟩ := hsp
  refine codeAny_mono (F.run A outer s H args us vs (fun v H' => ∃ G' q c, ∃ (ms : List Int) (x0 : Int), (0 ≤ x0 ∧ x0 < 2305843009213693951) ∧ Same G G' ∧ Base K G' U H' μ ∧ v = V.ref q ∧ G' q = none ∧ U q = none ∧ μ q = none ∧ H' q = some (.lst [.ref c, .int 0, .int 0, .int x0]) ∧ SqL K G' c (ms.map V.int) ∧ ms.length ≤ 63) E hr he hb hv
    ⟨G, U, _, μ, _, hbase, hd, hl, h0 ns μ hn, fun r v μ' G' H' hr' e b hv' => ?_⟩) fun r s' hq => ?_
  · obtain ⟨rfl, ms, x0, hm, hx0, rfl⟩ := hr'
    obtain ⟨q, rfl, g1, g2, g3, xs, hx, v1, r1, rfl, ⟨c, ys, rfl, hc, hys⟩, v2, r2, rfl, rfl, v3, r3, rfl, rfl, v4, r4, rfl, rfl, rfl⟩ := hv'
    have := DVs.ints hys
    subst this
    exact ⟨G', q, c, ms, x0, hx0, e, b, rfl, g1, g2, g3, hx, hc, hm⟩
  · cases r with
    | error e => exact hq
    | ok fl =>
      cases fl with
      | next => exact hq
      | brk => exact hq
      | cont => exact hq
      | ret u =>
        obtain ⟨v, H', os, bare, un, hok, rv, G', q, c, ms, x0, hx0, e, b, rfl, g1, g2, g3, hx, hc, hm⟩ := hq
        have nq : ∀ {F : Hp} {b : Addr} {o : HO}, F b = some o → F q = none → b ≠ q := fun {F b o} e n z => by rw [z, n] at e; cases e
        have lst : ∀ z, H' q = some z → z = .lst [.ref c, .int 0, .int 0, .int x0] := fun z hz => by rw [hx] at hz; exact (Option.some.inj hz).symm
        refine ⟨.ref q, upd H' q (.ext (Dlr q c)), os, bare, ⟨un.keep, un.slot, fun b o e n hx' => ?_, un.there, fun b xs e => ?_, fun b o u e => ?_, fun b ps e => ?_⟩, HOk.view hok hx ⟨fun y z => (by cases z), fun xs z => (by cases z)⟩ ?_, rv, ?_⟩
        · have := un.free b o e n hx'
          rw [upd_ne]
          · exact this
          · intro z
            rw [z, hx] at this
            cases this
        · have := un.tups b xs e
          rw [upd_ne]
          · exact this
          · intro z
            rw [z] at this
            cases lst _ this
        · have := un.frzs b o u e
          rw [upd_ne]
          · exact this
          · intro z
            rw [z] at this
            cases lst _ this
        · obtain ⟨more, this⟩ := un.tbls b ps e
          refine ⟨more, ?_⟩
          rw [upd_ne]
          · exact this
          · intro z
            rw [z] at this
            cases lst _ this
        · exact dlr_of (p := 0) (g := 0) (x := x0) ⟨by decide, by decide, hx0.1, hx0.2⟩ (by
            obtain ⟨z, its, n, r, e⟩ := hok q _ hx
            exact ⟨z, its, n, r, e⟩)
        · have sG : Same G' (upd G' q (.ext (Dlr q c))) := same_new g1
          refine kont _ _ μ (upd G' q (.ext (Dlr q c))) _ hR (e.trans sG) ⟨fun b o e => ?_, fun b o e => ?_, fun b o e => ?_, fun b o e => ?_, ‹Base K G' U H' μ›.bx⟩ ⟨q, c, ms, rfl, upd_same, sG.seq hc, hm⟩
          · by_cases hb : b = q
            · subst hb
              rw [upd_same] at e ⊢
              exact e
            · rw [upd_ne hb] at e ⊢
              exact ‹Base K G' U H' μ›.sub b o e
          · rw [upd_ne (nq e g2)]
            exact ‹Base K G' U H' μ›.usub b o e
          · rw [upd_ne (nq e g2)]
            exact ‹Base K G' U H' μ›.ug b o e
          · have hb : b ≠ q := fun z => by rw [z, g3] at e; cases e
            obtain ⟨z1, z2⟩ := ‹Base K G' U H' μ›.mu b o e
            exact ⟨by rw [upd_ne hb]; exact z1, z2.mono sG (by rw [upd_ne hb])⟩
/-- a promise of nothing -/
theorem fn_false {f : Addr} {fd : FuncData} {ps : List Str} {n : Nat} : FnOk P w K mg base CX0 k f fd ps (spD K n fun _ _ _ => False) :=
  ⟨fun vs H Q E ⟨_, _, _, _, _, _, _, _, h, _⟩ => h.elim, fun A outer s H args us vs Q E hr he hb hv ⟨_, _, _, _, _, _, _, _, h, _⟩ => h.elim⟩
end
end DL
/-! DL10: chained comparisons, is True, keyword calls, defs with defaults, more built-ins. -/
namespace DL
open PySem PySem.Spec PyProof.Rows L2

section
variable {X : Cx} {e1 e2 e3 : Expr} {φ1 φ2 φ3 : PhiE} {pos : Pos}
/-- a op1 b op2 c -/
def eChain (o1 o2 : O2) (φ1 φ2 φ3 : PhiE) : PhiE := fun s R => φ1 s fun r1 s1 => φ2 s1 fun r2 s2 => lk r1 s2 fun x => lk r2 s2 fun y => o1 x y fun z => match z with
  | .d (.bl k) => if k = true then φ3 s2 fun r3 s3 => lk r2 s3 fun y' => lk r3 s3 fun w => o2 y' w fun r => R r s3 else R (.d (.bl false)) s2
  | _ => False
theorem chain_of {r r' : R2} {o1 o2 : O2} (h1 : OpS X.K r o1) (h2 : OpS X.K r' o2) {σ : L2.St} {H : Hp} {Q : VK} (q : liftE X.K (eChain o1 o2 φ1 φ2 φ3) σ H Q) : tChain r r' (liftE X.K φ1) (liftE X.K φ2) (liftE X.K φ3) σ H Q := by
  obtain ⟨G, U, s, R, hs, hr, k⟩ := q
  refine ⟨G, U, s, _, hs, hr, fun r1 s1 G1 H1 v1 q1 e1 hs1 hv1 => ?_⟩
  obtain ⟨G1', e1', hs1', p1⟩ := pin_ok hs1 hv1
  refine ⟨G1', U, s1, _, hs1', q1, fun r2 s2 G2 H2 v2 q2 e2 hs2 hv2 => ?_⟩
  obtain ⟨G2', e2', hs2', p2⟩ := pin_ok hs2 hv2
  rw [← pin_lk] at q2
  obtain ⟨x, lx, q2⟩ := lk_ok hs2' (Pn.mono (e2.trans e2') p1) q2
  rw [← pin_lk] at q2
  obtain ⟨y, ly, q2⟩ := lk_ok hs2' p2 q2
  refine h1 G2' _ H2 s2.μ v1 v2 x y (fun z => match z with
    | .d (.bl k) => if k = true then φ3 s2 fun r3 s3 => lk r2 s3 fun y' => lk r3 s3 fun w => o2 y' w fun r => R r s3 else R (.d (.bl false)) s2
    | _ => False) _ hs2'.out lx ly q2 ?_
  have e0 := (((e1.trans e1').trans e2).trans e2')
  refine con_ok (R := fun z s2 => match z with
    | .d (.bl k) => if k = true then φ3 s2 fun r3 s3 => lk r2 s3 fun y' => lk r3 s3 fun w => o2 y' w fun r => R r s3 else R (.d (.bl false)) s2
    | _ => False) hs2' (Same.refl _) fun z s3 G3 H3 v3 q3 e3 hs3 hv3 => ?_
  cases z with
  | d d =>
    cases d with
    | bl c =>
      refine ⟨c, hv3, ?_⟩
      cases c with
      | true =>
        refine (if_pos rfl).mpr ⟨G3, U, s3, _, hs3, q3, fun r4 s4 G4 H4 v4 q4 e4 hs4 hv4 => ?_⟩
        obtain ⟨G4', e4', hs4', p4⟩ := pin_ok hs4 hv4
        rw [← pin_lk] at q4
        obtain ⟨y', ly', q4⟩ := lk_ok hs4' (Pn.mono ((e3.trans e4).trans e4') p2) q4
        rw [← pin_lk] at q4
        obtain ⟨w, lw, q4⟩ := lk_ok hs4' p4 q4
        exact h2 G4' _ H4 s4.μ v2 v4 y' w _ Q hs4'.out ly' lw q4 (con_ok hs4' (e0.trans ((e3.trans e4).trans e4')) k)
      | false => exact k _ s3 G3 H3 _ q3 (e0.trans e3) hs3 rfl
    | _ => exact q3.elim
  | _ => exact q3.elim
theorem de_chain {op op' : CmpOp} {r r' : R2} {o1 o2 : O2} (ho : OpR X (compareOp op) r) (ho' : OpR X (compareOp op') r') (h1 : OpS X.K r o1) (h2 : OpS X.K r' o2) (ha : PE X e1 (liftE X.K φ1)) (hb : PE X e2 (liftE X.K φ2)) (hc : PE X e3 (liftE X.K φ3))
    (hm : lastMarks [op, op'] [e2, e3] = false := by with_unfolding_all rfl) : PE X (.Compare e1 [op, op'] [e2, e3] pos) (liftE X.K (eChain o1 o2 φ1 φ2 φ3)) :=
  (pe_chain ho ho' ha hb hc hm).imp fun _ _ _ q => chain_of h1 h2 q
theorem dt_chain {op op' : CmpOp} {r r' : R2} {o1 o2 : O2} (ho : OpR X (compareOp op) r) (ho' : OpR X (compareOp op') r') (h1 : OpS X.K r o1) (h2 : OpS X.K r' o2) (ha : PE X e1 (liftE X.K φ1)) (hb : PE X e2 (liftE X.K φ2)) (hc : PE X e3 (liftE X.K φ3))
    (hm : lastMarks [op, op'] [e2, e3] = false := by with_unfolding_all rfl) : PT X (.Compare e1 [op, op'] [e2, e3] pos) (liftT X.K (tB (eChain o1 o2 φ1 φ2 φ3))) :=
  (pt_chain ho ho' ha hb hc hm).imp fun σ H Q q => chain_of h1 h2 (tB_of (φ := eChain o1 o2 φ1 φ2 φ3) q)
end

/-! ### is True, is False -/
def rIsBA (f : Bool → Bool) : R2 := fun x y H Q => ∃ b : Bool, y = .bl b ∧ Q (.bl (f (decide (x = .bl b)))) H
section
variable {X : Cx} {K : PySem.W.Frag}
theorem op_isbA : OpR X (compareOp .Is) (rIsBA fun b => b) := by
  intro pins s σ H x y v u Q I rx ry h
  obtain ⟨b, rfl, q⟩ := h
  cases (show u = Value.bool b from ry)
  by_cases e : x = .bl b
  · subst e
    cases (show v = Value.bool b from rx)
    exact wpAny_is_self rfl ⟨.bl true, H, I, rfl, by simpa using q⟩
  · have hne : v ≠ Value.bool b := fun z => by
      subst z
      cases x with
      | bl c =>
        have : Value.bool b = Value.bool c := rx
        cases this
        exact e rfl
      | non => cases (show Value.bool b = Value.none from rx)
      | int i => obtain ⟨t, z⟩ := rx; cases z
      | str i => obtain ⟨t, z⟩ := rx; cases z
      | byt i => obtain ⟨t, z⟩ := rx; cases z
      | flt i => obtain ⟨t, z⟩ := rx; cases z
      | ref a => cases (show Value.bool b = Value.ref a from rx)
      | ty n => cases (show Value.bool b = Value.type n from rx)
    refine wpAny_is_other ?_ hne ⟨.bl false, H, I, rfl, by simpa [e] using q⟩
    cases v <;> first
      | rfl
      | (exfalso
         cases x <;> first
           | (cases rx; done)
           | (obtain ⟨t, z⟩ := rx; cases z))
def oIsB (f : Bool → Bool) : O2 := fun x y R => match y with
  | .bl b => (∃ n, x = .non ∧ n = true ∧ R (.d (.bl (f false)))) ∨ (∃ c, x = .bl c ∧ R (.d (.bl (f (decide (c = b)))))) ∨ (∃ i, x = .int i ∧ R (.d (.bl (f false)))) ∨ ∃ z, x = .str z ∧ R (.d (.bl (f false)))
  | _ => False
theorem os_isbA {f : Bool → Bool} : OpS K (rIsBA f) (oIsB f) := fun G U H μ x y dx dy R Q b lx ly h k => by
  cases dy with
  | bl c =>
    cases ly.bl
    rcases h with ⟨n, rfl, _, h⟩ | ⟨e, rfl, h⟩ | ⟨i, rfl, h⟩ | ⟨i, rfl, h⟩
    · cases lx.non
      exact ⟨c, rfl, k.bl b (by simpa using h)⟩
    · cases lx.bl
      exact ⟨c, rfl, k.bl b (by simpa using h)⟩
    · cases lx.int
      exact ⟨c, rfl, k.bl b (by simpa using h)⟩
    · cases lx.str
      exact ⟨c, rfl, k.bl b (by simpa using h)⟩
  | _ => exact h.elim

/-! ### -a, gcd, max, min, all, sum -/
def oNeg : O1 := fun x R => match x with
  | .int i => R (.d (.int (-i)))
  | _ => False
theorem us_neg : UnS K (rU fun i => .int (-i)) oNeg := fun G U H μ x d R Q b l h k => by
  cases d with
  | int i => cases l.int; exact ⟨i, rfl, k.int b h⟩
  | _ => exact h.elim
def oII (g : Int → Int → Int) : OA := fun ds R => match ds with
  | [.int a, .int b] => R (.d (.int (g a b)))
  | _ => False
def gcdI (a b : Int) : Int := (Nat.gcd a.natAbs b.natAbs : Nat)
def max2I (i j : Int) : Int := if j > i then j else i
def min2I (i j : Int) : Int := if j < i then j else i
theorem oII_of {g : Int → Int → Int} {ds : List D} {xs : List V} {G : Hp} {R : Sl → Prop} (hd : DVs K G ds xs) (h : oII g ds R) : ∃ a b, xs = [.int a, .int b] ∧ R (.d (.int (g a b))) := by
  unfold oII at h
  split at h
  · exact ⟨_, _, hd.int2, h⟩
  · exact h.elim
theorem cs_gcd : CallS K rGcd (oII gcdI) := fun G U H μ xs ds R Q b hd h k => by
  obtain ⟨i, j, rfl, h⟩ := oII_of hd h
  exact ⟨i, j, rfl, k.int b h⟩
theorem cs_max2 : CallS K (fun xs H Q => ∃ i j, xs = [.int i, .int j] ∧ Q (.int (if j > i then j else i)) H) (oII max2I) := fun G U H μ xs ds R Q b hd h k => by
  obtain ⟨i, j, rfl, h⟩ := oII_of hd h
  exact ⟨i, j, rfl, k.int b h⟩
theorem cs_min2 : CallS K (fun xs H Q => ∃ i j, xs = [.int i, .int j] ∧ Q (.int (if j < i then j else i)) H) (oII min2I) := fun G U H μ xs ds R Q b hd h k => by
  obtain ⟨i, j, rfl, h⟩ := oII_of hd h
  exact ⟨i, j, rfl, k.int b h⟩
def asInts : List D → Option (List Int)
  | [] => some []
  | .int i :: r => (asInts r).map (i :: ·)
  | _ => none
theorem asInts_ok : ∀ {ds : List D} {ns : List Int}, asInts ds = some ns → ds = ns.map D.int
  | [], ns, h => by cases h; rfl
  | d :: r, ns, h => by
    cases d with
    | int i =>
      have h : (asInts r).map (i :: ·) = some ns := h
      cases e : asInts r with
      | none => rw [e] at h; cases h
      | some ms => rw [e] at h; cases h; rw [asInts_ok e]; rfl
    | _ => cases h
def asBls : List D → Option (List Bool)
  | [] => some []
  | .bl i :: r => (asBls r).map (i :: ·)
  | _ => none
theorem asBls_ok : ∀ {ds : List D} {ns : List Bool}, asBls ds = some ns → ds = ns.map D.bl
  | [], ns, h => by cases h; rfl
  | d :: r, ns, h => by
    cases d with
    | bl i =>
      have h : (asBls r).map (i :: ·) = some ns := h
      cases e : asBls r with
      | none => rw [e] at h; cases h
      | some ms => rw [e] at h; cases h; rw [asBls_ok e]; rfl
    | _ => cases h
theorem DVs.bls {G : Hp} : ∀ {ns : List Bool} {vs : List V}, DVs K G (ns.map D.bl) vs → vs = ns.map V.bl
  | [], _, h => h
  | n :: ns, _, ⟨x, r, h1, h2, h3⟩ => by
    have h2 : x = .bl n := h2
    have := DVs.bls h3
    rw [h1, h2, this]
    rfl
def oAll : O1 := fun x R => match x with
  | .lst ds => match asBls ds with
    | some bs => R (.d (.bl (bs.all id)))
    | none => False
  | _ => False
theorem cs_all : Call1S K (rAll K) oAll := fun G U H μ x d R Q b l h k => by
  cases d with
  | lst ds =>
    obtain ⟨a, xs, rfl, h1, h2⟩ := l.lst b
    unfold oAll at h
    simp only at h
    cases e : asBls ds with
    | none => rw [e] at h; exact h.elim
    | some bs =>
      rw [e] at h
      rw [asBls_ok e] at h2
      rw [h2.bls] at h1
      exact ⟨a, bs, rfl, h1, k.bl b h⟩
  | _ => exact h.elim
def oInts (f : List Int → (Int → Prop) → Prop) : O1 := fun x R => match x with
  | .lst ds => match asInts ds with
    | some bs => f bs fun i => R (.d (.int i))
    | none => False
  | _ => False
theorem oInts_of {f : List Int → (Int → Prop) → Prop} {G U H : Hp} {μ : Mu} {x : V} {d : D} {R : Sl → Prop} (b : Base K G U H μ) (l : Lk K G H d x) (h : oInts f d R) : ∃ a ns, x = .ref a ∧ SqL K H a (ns.map V.int) ∧ f ns fun i => R (.d (.int i)) := by
  cases d with
  | lst ds =>
    obtain ⟨a, xs, rfl, h1, h2⟩ := l.lst b
    unfold oInts at h
    simp only at h
    cases e : asInts ds with
    | none => rw [e] at h; exact h.elim
    | some bs =>
      rw [e] at h
      rw [asInts_ok e] at h2
      rw [h2.ints] at h1
      exact ⟨a, bs, rfl, h1, h⟩
  | _ => exact h.elim
def oSum : O1 := oInts fun ns R => R ns.sum
def oMaxL : O1 := oInts fun ns R => 0 < ns.length ∧ ∀ m, m ∈ ns → (∀ y, y ∈ ns → y ≤ m) → R m
def oMinL : O1 := oInts fun ns R => 0 < ns.length ∧ ∀ m, m ∈ ns → (∀ y, y ∈ ns → m ≤ y) → R m
theorem cs_sum : Call1S K (rSum K) oSum := fun G U H μ x d R Q b l h k => by
  obtain ⟨a, ns, rfl, h1, h2⟩ := oInts_of b l h
  exact ⟨a, ns, rfl, h1, k.int b h2⟩
theorem cs_maxL : Call1S K (rMax K) oMaxL := fun G U H μ x d R Q b l h k => by
  obtain ⟨a, ns, rfl, h1, h2, h3⟩ := oInts_of b l h
  exact ⟨a, ns, rfl, h1, h2, fun m p q => k.int b (h3 m p q)⟩
theorem cs_minL : Call1S K (rMin K) oMinL := fun G U H μ x d R Q b l h k => by
  obtain ⟨a, ns, rfl, h1, h2, h3⟩ := oInts_of b l h
  exact ⟨a, ns, rfl, h1, h2, fun m p q => k.int b (h3 m p q)⟩
/-- a module's name for a built-in function -/
theorem de_cbf {x : Str} {p pos : Pos} {e : Expr} {es : List Expr} {ψ : PhiA} {id : String} {r : List V → Hp → VK → Prop} {o : OA} (hc : CallR X (.builtin id) r) (ho : CallS X.K r o) (hg : Gl X x) (hm : X.mg x = some (.builtin id)) (ha : PA X (e :: es) (liftA X.K ψ)) (hdb : (x == ("__debug__" : Str)) = false := by decide)
    (he : starEach (e :: es) X.env = (false, eval e X.env) :: starEach es X.env := by rfl) (hpl : (backTo pos (starEach es X.env)).any (·.1) = false := by rfl) : PE X (.Call (.Name x p) (e :: es) [] pos) (liftE X.K (eCB o ψ)) :=
  (pe_callBfun hc hg hm ha hdb he hpl).imp fun σ H Q q => cb_of ho q
end

/-! ### defs with defaults -/
section
variable {P : Program} {w : World} {K : PySem.W.Frag} {mg : Str → Option Value} {base : Heap}
theorem fn_okD {x qual : Str} {st : Stmt} {f : Addr} {fd : FuncData} {N ps : List Str} {k : Nat} {Φ : PhiS} {dvs : List V} (F : FunD K x qual (defArgs st) (defBody st) (defScope st) dvs [] f fd) (S : FnScope N ps (defScope st))
    (hbody : ∀ (cdv : Value) (A : Around) (outer : List Env) (s : Shared) (H : Hp), Room k (A.deeper (envOfC qual (defScope st) s.heap.objs.size f cdv)) →
      PSs (cxOf CX0 P w K mg base N qual (defScope st) f cdv A outer s H E0).nox (defBody st) (liftS K Φ)) : FnOk P w K mg base CX0 (k + 1) f fd ps (spD K ps.length (body N.length Φ)) := by
  refine F.ok S (fun vs H Q E h => spD_len h) fun cdv A outer s H vs Q E hr hsp => ⟨_, (hbody cdv A outer s H hr).nox, ?_⟩
  obtain ⟨G, U, ds, μ, R, hb, hd, hl, hF, k⟩ := hsp
  have hle : ps.length ≤ N.length := by
    have := S.pre
    have := congrArg List.length this
    rw [List.length_take] at this
    omega
  refine ⟨G, U, _, _, start_st hb hd (by omega), hF, ⟨fun s' G' H' σ' q e hs' => k _ _ _ G' H' q e hs'.base rfl, fun s' G' H' σ' q => False.elim q, fun s' G' H' σ' q => False.elim q, fun r μ' G' H' v q e b hv => k r v μ' G' H' q e b hv⟩⟩
end

section
variable {K : PySem.W.Frag} {x qual : Str} {st : Stmt} {f : Addr} {fd : FuncData} {ps : List Str} {dvs : List V}
theorem _root_.L2.FunD.bindsW {params : Arguments} {bd : List Stmt} {scope : Scope} (F : FunD K x qual params bd scope dvs [] f fd) (n j : Nat) (hd : dvs ≠ []) (hn : n + (dvs.length - j) = ps.length)
    (h : ∀ (T : Addr) (kV doc pm : Value) (an : Option Addr) (cdv ct : Value) (us its : List Value), us.length = n → its.length = dvs.length →
      ∃ k, bindArgs (PySem.W.fnOf x qual params bd scope (.ref T) kV doc pm an cdv ct) ⟨us, []⟩ = seqItems? (.ref T) >>= k ∧ k (some its.toArray) = pure (ps.zip (us ++ its.drop j))) (hj : dvs.drop j = [] := by rfl) : Binds K fd ps [] := by
  obtain ⟨ds, h1, h2⟩ := F.binds1 n j hd hn h
  rw [hj] at h1
  cases h1
  exact h2
end
/-! ### f(k = v, ..) -/
section
variable {X : Cx} {k : Nat} {f : Addr} {fd : FuncData} {ps ks : List Str} {F : FD} {x : Str} {p pos kpos : Pos} {e : Expr} {kws : List Keyword} {φ : PhiE} {ψ : PhiA} {nm : Option Str}
theorem dk_nil : PK X [] (liftA X.K aNil) := ⟨fun pos pins s σ H Q I ⟨G, U, s', R, hs, hr, k⟩ => pk_nil.run pos pins s σ H Q I (k [] s' G H [] hr (Same.refl _) hs rfl)⟩
theorem dk_cons (h : PE X e (liftE X.K φ)) (hr : PK X kws (liftA X.K ψ)) : PK X (⟨nm, e, kpos⟩ :: kws) (liftA X.K (aCons φ ψ)) :=
  ⟨fun pos pins s σ H Q I ⟨G, U, s', R, hs, hr', k⟩ => (pk_cons h hr).run pos pins s σ H Q I ⟨G, U, s', _, hs, hr', fun r1 s1 G1 H1 v1 q1 e1 hs1 hv1 => by
    obtain ⟨G1', e1', hs1', d1⟩ := frz_ok hs1 hv1
    exact ⟨G1', U, _, _, hs1', q1, fun ds s2 G2 H2 vs q2 e2 hs2 dvs => k _ s2 G2 H2 _ q2 ((e1.trans e1').trans e2) hs2 ⟨v1, vs, rfl, d1.mono e2, dvs⟩⟩⟩⟩
/-- the keywords' values in the parameters' order -/
structure KB (K : PySem.W.Frag) (fd : FuncData) (ps ks : List Str) (gD : List D → List D) : Prop where
  ex : ∃ g gV, KBinds K fd ps ks g gV ∧ ∀ G ds vs, DVs K G ds vs → DVs K G (gD ds) (gV [] vs)
def eCallK (F : FD) (gD : List D → List D) (ψ : PhiA) : PhiE := fun s R => ψ s fun ds s1 => (F (gD ds) s1.μ fun r μ' => R r ⟨s1.ρ, μ'⟩)
theorem de_callK {n : Nat} {gD : List D → List D} (Fk : FnOk X.prog X.w X.K X.mg X.base CX0 k f fd ps (spD X.K n F)) (hr : Room k X.A) (hg : Gl X x) (hm : X.mg x = some (.ref f)) (hk : PySem.W.keepIn X.K (.ref f) = true) (hb : KB X.K fd ps ks gD)
    (hkw : PK X kws (liftA X.K ψ)) (hall : (backToKw pos (keywordEach kws X.env)).all (·.1.isSome) = true := by rfl) (hks : (backToKw pos (keywordEach kws X.env)).filterMap (·.1) = ks := by rfl)
    (hdb : (x == ("__debug__" : Str)) = false := by decide)
    (hpl : ((backTo pos (starEach [] X.env)).any (·.1) || (backToKw pos (keywordEach kws X.env)).any (·.1.isNone)) = false := by rfl) :
    PE X (.Call (.Name x p) [] kws pos) (liftE X.K (eCallK (fdn n F) gD ψ)) := by
  obtain ⟨g, gV, hb, hg'⟩ := hb.ex
  refine ⟨fun pins s σ H Q I ⟨G, U, s0, R, hs, hR, kk⟩ => ?_⟩
  refine wpAny_Call_Name_kw (ld_glob I hg hm ?_ hdb)
  refine PySem.W.callWith_KW0 (h₀ := X.base) I.ok.mod.kin hk hall (thn (hkw.run pos pins s σ H (fun zs H2 => spD X.K n F (gV [] zs) H2 Q E0) I ⟨G, U, s0, _, hs, hR, fun ds s1 G1 H1 vs q1 e1 hs1 dv => ?_⟩) fun ws s2 ⟨zs, H2, I2, rz, q2⟩ => ⟨I2.kIn, ?_⟩) hpl
  · exact ⟨G1, _, gD ds, s1.μ, _, hs1.out, hg' G1 ds vs dv, q1.1, q1.2, fun r v μ' G' H' q e b hv' => kk r _ G' H' v q (e1.trans e) (hs1.back e b) (hv'.rs (ρ := s1.ρ) hs1)⟩
  · rw [hks]
    exact run_fnk (us := []) (vs := []) Fk hr hb pass0 I2 .nil rz q2
variable {K : PySem.W.Frag}
/-- two keywords in the parameters' order, and turned -/
theorem KB.two {k1 k2 : Str} (h : ∀ a b, bindArgs fd ⟨[], [(k1, a), (k2, b)]⟩ = pure [(k1, a), (k2, b)]) : KB K fd [k1, k2] [k1, k2] fun l => match l with | [a, b] => [a, b] | _ => [] := by
  refine ⟨fun us ws => match us, ws with | [], [a, b] => [a, b] | _, _ => [], fun us ws => match us, ws with | [], [a, b] => [a, b] | _, _ => [], ⟨fun s us ws _ hl => ?_, fun r1 r2 => ?_⟩, fun G ds vs hd => ?_⟩
  · match us, ws, hl with
    | [], [a, b], _ => exact .of_eq (h a b)
    | [], [], hl => cases hl
    | [], [_], hl => cases hl
    | [], _ :: _ :: _ :: _, hl => cases hl
    | _ :: _, _, hl => cases hl
  · match r1, r2 with
    | .nil, .nil => exact .nil
    | .nil, .cons _ .nil => exact .nil
    | .nil, .cons a (.cons b .nil) => exact .cons a (.cons b .nil)
    | .nil, .cons _ (.cons _ (.cons _ _)) => exact .nil
    | .cons _ _, _ => exact .nil
  · match ds, hd with
    | [], hd => cases (show vs = [] from hd); exact rfl
    | [_], ⟨x, r, e, _, e2⟩ => cases (show r = [] from e2); cases e; exact rfl
    | [_, _], ⟨x, r, e, h1, x2, r2, e2, h2, e3⟩ => cases (show r2 = [] from e3); cases e2; cases e; exact ⟨x, _, rfl, h1, x2, _, rfl, h2, rfl⟩
    | _ :: _ :: _ :: _, ⟨x, r, e, h1, x2, r2, e2, h2, x3, r3, e3, _⟩ => cases e3; cases e2; cases e; exact rfl
theorem KB.turn {k1 k2 : Str} (h : ∀ a b, bindArgs fd ⟨[], [(k2, a), (k1, b)]⟩ = pure [(k1, b), (k2, a)]) : KB K fd [k1, k2] [k2, k1] fun l => match l with | [a, b] => [b, a] | _ => [] := by
  refine ⟨fun us ws => match us, ws with | [], [a, b] => [b, a] | _, _ => [], fun us ws => match us, ws with | [], [a, b] => [b, a] | _, _ => [], ⟨fun s us ws _ hl => ?_, fun r1 r2 => ?_⟩, fun G ds vs hd => ?_⟩
  · match us, ws, hl with
    | [], [a, b], _ => exact .of_eq (h a b)
    | [], [], hl => cases hl
    | [], [_], hl => cases hl
    | [], _ :: _ :: _ :: _, hl => cases hl
    | _ :: _, _, hl => cases hl
  · match r1, r2 with
    | .nil, .nil => exact .nil
    | .nil, .cons _ .nil => exact .nil
    | .nil, .cons a (.cons b .nil) => exact .cons b (.cons a .nil)
    | .nil, .cons _ (.cons _ (.cons _ _)) => exact .nil
    | .cons _ _, _ => exact .nil
  · match ds, hd with
    | [], hd => cases (show vs = [] from hd); exact rfl
    | [_], ⟨x, r, e, _, e2⟩ => cases (show r = [] from e2); cases e; exact rfl
    | [_, _], ⟨x, r, e, h1, x2, r2, e2, h2, e3⟩ => cases (show r2 = [] from e3); cases e2; cases e; exact ⟨x2, _, rfl, h2, x, _, rfl, h1, rfl⟩
    | _ :: _ :: _ :: _, ⟨x, r, e, h1, x2, r2, e2, h2, x3, r3, e3, _⟩ => cases e3; cases e2; cases e; exact rfl
theorem _root_.L2.Fun.kb2 {x qual : Str} {st : Stmt} {f : Addr} {fd : FuncData} {k1 k2 : Str} (F : Fun K x qual st f fd)
    (h : ∀ (kV doc pm : Value) (an : Option Addr) (cdv ct a b : Value), bindArgs (PySem.W.fnOf x qual (defArgs st) (defBody st) (defScope st) .none kV doc pm an cdv ct) ⟨[], [(k1, a), (k2, b)]⟩ = pure [(k1, a), (k2, b)]) : KB K fd [k1, k2] [k1, k2] fun l => match l with | [a, b] => [a, b] | _ => [] := by
  obtain ⟨oc, od, kV, doc, pm, an, cdv, ct, osl, rfl, lk, hcd⟩ := F.ex
  exact KB.two (h kV doc pm an cdv ct)
theorem _root_.L2.Fun.kbt {x qual : Str} {st : Stmt} {f : Addr} {fd : FuncData} {k1 k2 : Str} (F : Fun K x qual st f fd)
    (h : ∀ (kV doc pm : Value) (an : Option Addr) (cdv ct a b : Value), bindArgs (PySem.W.fnOf x qual (defArgs st) (defBody st) (defScope st) .none kV doc pm an cdv ct) ⟨[], [(k2, a), (k1, b)]⟩ = pure [(k1, b), (k2, a)]) : KB K fd [k1, k2] [k2, k1] fun l => match l with | [a, b] => [b, a] | _ => [] := by
  obtain ⟨oc, od, kV, doc, pm, an, cdv, ct, osl, rfl, lk, hcd⟩ := F.ex
  exact KB.turn (h kV doc pm an cdv ct)
end
end DL
/-! DL11: the drawing machine's step, read once. -/
namespace DL
open PySem PySem.Spec PyProof.Rows L2

abbrev tIxD (K : PySem.W.Frag) (i : Int) : TE := tOp (rIx K) (tVar 0) (tC (.int i))
abbrev tI1 (t : TE) : TE := tCB (fun xs H Q => (∃ i, xs = [V.int i] ∧ Q (V.int i) H) ∨ ∃ k, xs = [V.bl k] ∧ Q (V.int (if k then 1 else 0)) H) (tCons t tNil)
abbrev gD (i : Int) : TG := gSub (tVar 0) (tC (.int i)) rSetL
abbrev rAddI : R2 := rI0 fun i j => .int (i + j)
abbrev rMulI : R2 := rI CMul fun i j => .int (i * j)
abbrev rModI : R2 := rI (fun _ j => 0 < j) fun i j => .int (i % j)
abbrev rDivI : R2 := rI CDiv fun i j => .int (i / j)
def tFirst (K : PySem.W.Frag) : TS :=
    tSeq (tAsg (tOp (rIx K) (tIxD K 0) (tIxD K 1)) (gName 2))
      (tSeq (tAsg (tOp rAddI (tIxD K 1) (tC (.int 1))) (gD 1))
        (tIfS (tTest (tOp (rI0 fun i j => .bl (decide (j ≤ i))) (tVar 2) (tOp (rI CPow fun i j => .int (i ^ j.toNat)) (tC (.int 10)) (tC (.int 18)))))
          (tAsg (tVar 2) (gD 2))
          (tAsg (tOp rModI (tI1 (tOp rAddI (tOp rAddI (tOp rMulI (tIxD K 3) (tC (.int 69621))) (tOp rMulI (tVar 2) (tC (.int 48271)))) (tC (.int 7)))) (tC (.int 2147483647))) (gD 3))))
def tTail (K : PySem.W.Frag) : TS :=
  tSeq (tIfS (tTest (tOp (rI0 fun i j => .bl (decide (j < i))) (tIxD K 2) (tC (.int 0))))
    (tSeq (tAsg (tOp rModI (tI1 (tIxD K 2)) (tVar 1)) (gName 3))
      (tSeq (tAsg (tOp rDivI (tIxD K 2) (tVar 1)) (gD 2)) (tRet (tVar 3))))
    tNext)
  (tSeq (tAsg (tOp rModI (tI1 (tOp rAddI (tOp rMulI (tIxD K 3) (tC (.int 48271))) (tC (.int 211)))) (tC (.int 2147483647))) (gD 3))
    (tRet (tOp rModI (tI1 (tOp rDivI (tOp rModI (tI1 (tOp rMulI (tIxD K 3) (tC (.int 16807)))) (tC (.int 2147483629))) (tC (.int 128)))) (tVar 1))))
abbrev tCond (K : PySem.W.Frag) : TT := L2.tAnd (tTest (tOp rEq (tIxD K 2) (tC (.int 0)))) (tTest (tOp (rI0 fun i j => .bl (decide (i < j))) (tIxD K 1) (tCB (rLenA K) (tCons (tIxD K 0) tNil))))
abbrev tDealT (K : PySem.W.Frag) : TS := tSeq (tIfS (tCond K) (tFirst K) tNext) (tTail K)

section
variable {K : PySem.W.Frag} {H : Hp} {σ : L2.St} {Q : VK} {a c : Addr}
theorem dix {xs : List V} {i : Int} {v : V} (hσ : σ[0]? = some (some (.ref a))) (h : H a = some (.lst xs)) (e : atI xs i = some v) (q : Q v H) : tIxD K i σ H Q :=
  ⟨.ref a, hσ, .inl ⟨a, xs, i, v, rfl, rfl, SqL.of h, e, q⟩⟩
theorem dset {xs : List V} {i : Int} {v : V} {j : Nat} {R : L2.St → Hp → Prop} (hσ : σ[0]? = some (some (.ref a))) (h : H a = some (.lst xs)) (e : ixN xs.length i = some j) (q : R σ (upd H a (.lst (xs.set j v)))) : gD i v σ H R :=
  ⟨.ref a, hσ, a, xs, i, j, rfl, rfl, h, e, q⟩
theorem di1 {t : TE} {R : VK} (h : t σ H fun v H' => ∃ i, v = .int i ∧ R (.int i) H') (m : ∀ P P' : VK, (∀ v H, P v H → P' v H) → t σ H P → t σ H P') : tI1 t σ H R :=
  m _ _ (fun v H' ⟨i, e, q⟩ => .inl ⟨i, by rw [e], q⟩) h
theorem sql_upd {xs : List V} {o : HO} {ys : List V} (h : SqL K H c ys) (ha : H a = some (.lst xs)) (hac : c ≠ a) : SqL K (upd H a o) c ys := by
  rcases h with (h | ⟨u, h⟩) | h
  · exact .inl (.inl (by rw [upd_ne hac]; exact h))
  · exact .inl (.inr ⟨u, by rw [upd_ne hac]; exact h⟩)
  · exact .inr h
theorem deal_tail {m p g x : Int} {σ : L2.St} {H0 : Hp} (hσ0 : σ[0]? = some (some (.ref a))) (hσ1 : σ[1]? = some (some (.int m))) (hl : 3 < σ.length) (hm : 0 < m) (hm2 : m < 1073741824) (hb : 0 ≤ p ∧ 0 ≤ g ∧ 0 ≤ x ∧ x < 2305843009213693951)
    (hH : ∀ d p' g' x', 0 ≤ d → d < m → (0 ≤ p' ∧ 0 ≤ g' ∧ 0 ≤ x' ∧ x' < 2305843009213693951) → Q (.int d) (upd H0 a (.lst [.ref c, .int p', .int g', .int x']))) (E : Ends) (hE : E.rt = Q) :
    tTail K E σ (upd H0 a (.lst [.ref c, .int p, .int g, .int x])) := by
  subst hE
  unfold tTail
  obtain ⟨b1, b2, b3, b4⟩ := hb
  have h0 : (upd H0 a (.lst [.ref c, .int p, .int g, .int x])) a = some (.lst [.ref c, .int p, .int g, .int x]) := upd_same
  refine dix hσ0 h0 (show _ = some (.int g) from rfl) ⟨g, 0, rfl, rfl, decide (0 < g), rfl, ?_⟩
  by_cases hg : 0 < g
  · dsimp only
    rw [if_pos (by simpa using hg)]
    refine dix hσ0 h0 (show _ = some (.int g) from rfl) (.inl ⟨g, rfl, _, hσ1, g, m, rfl, rfl, hm, ?_⟩)
    show tAsg (tOp rDivI (tIxD K 2) (tVar 1)) (gD 2) _ (σ.set 3 (some (.int (g % m)))) _
    have k0 : (σ.set 3 (some (V.int (g % m))))[0]? = some (some (.ref a)) := by rw [List.getElem?_set_ne (by decide)]; exact hσ0
    have k1 : (σ.set 3 (some (V.int (g % m))))[1]? = some (some (.int m)) := by rw [List.getElem?_set_ne (by decide)]; exact hσ1
    refine dix k0 h0 (show _ = some (.int g) from rfl) ⟨_, k1, g, m, rfl, rfl, ⟨hm, hm2⟩, ?_⟩
    refine dset k0 h0 (show _ = some 2 from rfl) ⟨.int (g % m), ?_, ?_⟩
    · rw [List.getElem?_set_self hl]
    · show E.rt _ (upd (upd _ _ _) _ _)
      rw [upd_upd]
      exact hH _ _ _ _ (Int.emod_nonneg _ (by omega)) (Int.emod_lt_of_pos _ hm) ⟨b1, Int.ediv_nonneg b2 (by omega), b3, b4⟩
  · dsimp only
    rw [if_neg (by simpa using hg)]
    refine dix hσ0 h0 (show _ = some (.int x) from rfl) ⟨x, 48271, rfl, rfl, .inr ⟨by decide, by decide⟩, x * 48271, 211, rfl, rfl, .inl ⟨_, rfl, _, _, rfl, rfl, (by decide : (0:Int) < 2147483647), ?_⟩⟩
    have d1 := Int.emod_nonneg (x * 48271 + 211) (show (2147483647:Int) ≠ 0 by decide)
    have d2 := Int.lt_trans (Int.emod_lt_of_pos (x * 48271 + 211) (show (0:Int) < 2147483647 by decide)) (show (2147483647:Int) < 2305843009213693951 by decide)
    refine dset hσ0 h0 (show _ = some 3 from rfl) ?_
    rw [upd_upd]
    refine dix hσ0 (upd_same) (show _ = some (.int ((x * 48271 + 211) % 2147483647)) from rfl) ⟨_, 16807, rfl, rfl, .inr ⟨by decide, by decide⟩, .inl ⟨_, rfl, _, 2147483629, rfl, rfl, (by decide : (0:Int) < 2147483629), _, 128, rfl, rfl, ⟨by decide, by decide⟩, .inl ⟨_, rfl, _, hσ1, _, m, rfl, rfl, hm, ?_⟩⟩⟩
    exact hH _ _ _ _ (Int.emod_nonneg _ (by omega)) (Int.emod_lt_of_pos _ hm) ⟨b1, b2, d1, d2⟩
theorem deal_first {m p g x : Int} {ns : List Int} (hac : ∀ o, SqL K (upd H a o) c (ns.map V.int)) (hc : SqL K H c (ns.map V.int)) (ha : H a = some (.lst [.ref c, .int p, .int g, .int x])) (hb : 0 ≤ p ∧ 0 ≤ g ∧ 0 ≤ x ∧ x < 2305843009213693951) (hp : p < (ns.length : Int)) (E : Ends)
    (hE : ∀ cell p' g' x', (0 ≤ p' ∧ 0 ≤ g' ∧ 0 ≤ x' ∧ x' < 2305843009213693951) → E.nx [some (.ref a), some (.int m), some (.int cell), none] (upd H a (.lst [.ref c, .int p', .int g', .int x']))) :
    tFirst K E [some (.ref a), some (.int m), none, none] H := by
  obtain ⟨b1, b2, b3, b4⟩ := hb
  unfold tFirst
  have hpn : p.toNat < ns.length := by omega
  have hat : atI (ns.map V.int) p = some (.int ns[p.toNat]) := by
    unfold atI ixN
    rw [List.length_map, if_pos b1, if_pos hp]
    simp [hpn]
  refine dix rfl ha (show _ = some (.ref c) from rfl) (dix rfl ha (show _ = some (.int p) from rfl) (.inl ⟨c, _, p, _, rfl, rfl, hc, hat, ?_⟩))
  generalize ns[p.toNat] = cell
  refine dix (σ := [some (.ref a), some (.int m), some (.int cell), none]) rfl ha (show _ = some (.int p) from rfl) ⟨p, 1, rfl, rfl, dset rfl ha (show _ = some 1 from rfl) ?_⟩
  refine ⟨_, rfl, 10, 18, rfl, rfl, ⟨by decide, by decide, by decide⟩, cell, (10 : Int) ^ (18 : Int).toNat, rfl, rfl, _, rfl, ?_⟩
  by_cases hc18 : (10 : Int) ^ (18 : Int).toNat ≤ cell
  · refine (if_pos (decide_eq_true hc18)).mpr ?_
    refine ⟨_, rfl, dset rfl upd_same (show _ = some 2 from rfl) ?_⟩
    rw [upd_upd]
    have c0 : (0 : Int) ≤ cell := Int.le_trans (by decide) hc18
    exact hE cell (p + 1) cell x ⟨by omega, c0, b3, b4⟩
  · refine (if_neg (fun z => hc18 (of_decide_eq_true z))).mpr ?_
    refine dix rfl upd_same (show _ = some (.int x) from rfl) ⟨x, 69621, rfl, rfl, .inr ⟨by decide, by decide⟩, _, rfl, cell, 48271, rfl, rfl, .inr ⟨by decide, by decide⟩, _, _, rfl, rfl, _, 7, rfl, rfl, .inl ⟨_, rfl, _, 2147483647, rfl, rfl, (by decide : (0:Int) < 2147483647), ?_⟩⟩
    refine dset rfl upd_same (show _ = some 3 from rfl) ?_
    rw [upd_upd]
    exact hE cell (p + 1) g _ ⟨by omega, b2, Int.emod_nonneg _ (by decide), Int.lt_trans (Int.emod_lt_of_pos _ (by decide)) (by decide)⟩
theorem deal_reads {vs : List V} {E : XK} (h : spDeal K vs H Q E) (E' : Ends) (hE : E'.rt = Q) : tDealT K E' (L2.start ["dealer", "many", "cell", "digit"] vs) H := by
  obtain ⟨a, c, ns, m, p, g, x, rfl, hm, hm2, hc, hn, ha, hb, hQ⟩ := h
  have hcu : ∀ o, SqL K (upd H a o) c (ns.map V.int) := fun o => by
    rcases hc with (h | ⟨u, h⟩) | h
    · by_cases e : c = a
      · subst e
        rw [ha] at h
        injection h with h
        injection h with h
        cases ns with
        | nil => cases h
        | cons n ns => cases h
      · exact .inl (.inl (by rw [upd_ne e]; exact h))
    · by_cases e : c = a
      · subst e
        rw [ha] at h
        cases h
      · exact .inl (.inr ⟨u, by rw [upd_ne e]; exact h⟩)
    · exact .inr h
  have eH : upd H a (.lst [.ref c, .int p, .int g, .int x]) = H := by
    funext b
    by_cases e : b = a
    · subst e
      rw [upd_same, ha]
    · rw [upd_ne e]
  have s0 : (L2.start ["dealer", "many", "cell", "digit"] [V.ref a, V.int m]) = [some (.ref a), some (.int m), none, none] := rfl
  rw [s0]
  have tail : ∀ (σ : L2.St) (p' g' x' : Int) (k0 : σ[0]? = some (some (.ref a))) (k1 : σ[1]? = some (some (.int m))) (kl : 3 < σ.length) (kb : 0 ≤ p' ∧ 0 ≤ g' ∧ 0 ≤ x' ∧ x' < 2305843009213693951), tTail K E' σ (upd H a (.lst [.ref c, .int p', .int g', .int x'])) := fun σ p' g' x' k0 k1 kl kb => deal_tail (K := K) (c := c) (H0 := H) k0 k1 kl hm hm2 kb hQ E' hE
  have miss : tTail K E' [some (.ref a), some (.int m), none, none] H := by
    have := tail [some (.ref a), some (.int m), none, none] p g x rfl rfl (Nat.lt_succ_self 3) hb
    rw [eH] at this
    exact this
  refine dix (i := 2) rfl ha (show _ = some (.int g) from rfl) ⟨rfl, decide (V.int g = V.int 0), rfl, ?_⟩
  by_cases hg : g = 0
  · refine (if_pos (decide_eq_true (by rw [hg]))).mpr ?_
    refine dix rfl ha (show _ = some (.int p) from rfl) (dix rfl ha (show _ = some (.ref c) from rfl) (.inl ⟨_, ns.length, rfl, .inl ⟨_, hc, by simp⟩, p, _, rfl, rfl, decide (p < (ns.length : Int)), rfl, ?_⟩))
    by_cases hp : p < (ns.length : Int)
    · refine (if_pos (decide_eq_true hp)).mpr ?_
      exact deal_first hcu hc ha hb hp _ fun cell p' g' x' kb => tail [some (.ref a), some (.int m), some (.int cell), none] p' g' x' rfl rfl (Nat.lt_succ_self 3) kb
    · exact (if_neg (fun z => hp (of_decide_eq_true z))).mpr miss
  · refine (if_neg (fun z => hg (by injection (of_decide_eq_true z)))).mpr ?_
    exact (if_neg (by decide)).mpr miss
end
end DL
/-! DL12: the machine's making; the law's own promise. -/
namespace DL
open PySem PySem.Spec PyProof.Rows L2

def ΦDealer : PhiS :=
  sRet (eLst (aCons (eLc (iE (eSl (eV 0) (pNone) (pSome (eC (.int 63))))) [1] (gN 1) (fun s R => R true s) (eUn oInt (eV 1))) (aCons (eC (.int 0)) (aCons (eC (.int 0)) (aCons (eC (.int 97)) (aNil))))))
theorem cut_ints (ns : List Int) (lo hi : Option Int) : cutD (ns.map D.int) lo hi = (cutD ns lo hi).map D.int := by
  unfold cutD
  rw [List.length_map, List.map_take, List.map_drop]
theorem cut_len {α : Type} (xs : List α) (lo hi : Option Int) : (cutD xs lo hi).length ≤ xs.length := by
  unfold cutD
  rw [List.length_take, List.length_drop]
  omega
theorem dealer_lc (R : Sl → S → Prop) (x : Sl) (s0 : S) (μ : Mu) (h1 : s0 = ⟨[x, .no], μ⟩) (v : Sl) : ∀ (ns : List Int) (acc : List D), (acc.length + ns.length < sizeLine) → R (.l (acc ++ ns.map D.int)) ⟨[x, .no], μ⟩ →
    lcL [1] s0 (gN 1) (fun s R => R true s) (eUn oInt (eV 1)) R (ns.map D.int) acc ⟨[x, v], μ⟩
  | [], acc, _, h => by
    subst h1
    have : R (.l (acc ++ [])) ⟨[x, .no], μ⟩ := h
    rw [List.append_nil] at this
    exact this
  | n :: ns, acc, hl, h => by
    simp only [List.length_cons] at hl
    simp only [List.map_cons, lcL, gN, eUn, eV, S.set, put, get, lk, oInt, fz, frz, clr, if_true]
    refine ⟨by omega, ?_⟩
    refine dealer_lc R x s0 μ h1 .no ns (acc ++ [.int n]) (by simp; omega) ?_
    rw [List.append_assoc]
    exact h
theorem dealer_h0 (ns : List Int) (μ : Mu) (h : ns.length ≤ 63) : body 2 ΦDealer [.lst (ns.map D.int)] μ fun r μ' => μ' = μ ∧ ∃ (ms : List Int) (x0 : Int), ms.length ≤ 63 ∧ (0 ≤ x0 ∧ x0 < 2305843009213693951) ∧ r = .l [.lst (ms.map D.int), .int 0, .int 0, .int x0] := by
  show lcL [1] ⟨[.d (.lst (ns.map D.int)), .no], μ⟩ (gN 1) (fun s R => R true s) (eUn oInt (eV 1)) _ (cutD (ns.map D.int) none (some 63)) [] ⟨[.d (.lst (ns.map D.int)), .no], μ⟩
  rw [cut_ints]
  have hl := cut_len ns none (some 63)
  refine dealer_lc _ _ _ _ rfl _ _ [] ?_ ?_
  · have : 64 < sizeLine := by decide
    simp only [List.length_nil]
    omega
  · exact ⟨show 4 ≤ sizeLine by decide, rfl, cutD ns none (some 63), 97, by omega, by decide, rfl⟩

def spLaw (K : PySem.W.Frag) : Sp := fun vs H Q _ => ∃ (a : Addr) (ns : List Int), vs = [.ref a] ∧ SqL K H a (ns.map V.int) ∧ ns.length ≤ 63 ∧ ∀ H', Q (.bl true) H'
theorem law_of {P : Program} {w : World} {K : PySem.W.Frag} {mg : Str → Option Value} {base : Heap} {k : Nat} {f : Addr} {fd : FuncData} {ps : List Str} {F : FD} (h : FnOk P w K mg base CX0 k f fd ps (spD K 1 F))
    (law : ∀ (ns : List Int), ns.length ≤ 63 → F [.lst (ns.map D.int)] (fun _ => none) fun r _ => r = .d (.bl true)) : FnOk P w K mg base CX0 k f fd ps (spLaw K) :=
  h.imp fun vs H Q E ⟨a, ns, e, hS, hl, q⟩ => by
    have fin : ∀ G : Hp, Same G H → SqL K G a (ns.map V.int) → spD K 1 F vs H Q E := fun G sub hG => by
      subst e
      refine ⟨G, fun _ => none, [.lst (ns.map D.int)], fun _ => none, _, ⟨sub, fun _ _ z => by (cases z), fun _ _ z => by (cases z), fun _ _ z => by (cases z), fun _ _ z => by (cases z)⟩, ⟨_, [], rfl, ⟨a, _, rfl, hG, DVs.ofInts⟩, rfl⟩, rfl, law ns hl, fun r v μ' G' H' hr _ _ hv => ?_⟩
      subst hr
      have hv : v = .bl true := hv
      rw [hv]
      exact q H'
    rcases hS with (h | ⟨o, h⟩) | h
    · refine fin (upd (fun _ => none) a (.lst (ns.map V.int))) (fun b u z => ?_) (.inl (.inl upd_same))
      by_cases e : b = a
      · subst e
        rw [upd_same] at z
        exact h.trans z
      · rw [upd_ne e] at z
        cases z
    · refine fin (fun b => if b = a then H a else none) (fun b u z => ?_) (.inl (.inr ⟨o, ?_⟩))
      · by_cases e : b = a
        · subst e
          simpa using z
        · simp [e] at z
      · simpa using h
    · exact fin (fun _ => none) (fun _ _ z => by cases z) (.inr h)
end DL
/-! DL13: rewriting what a body does, over trees. -/
namespace DL
open PySem PySem.Spec PyProof.Rows L2

section
variable {R : Sl → Prop} {i j : Int} {x y : Str} {b c : Bool} {xs ys : List D} {ks : List Key} {d e : D}
theorem Str.beq_dec (x y : Str) : (x == y) = decide (x = y) := by
  by_cases h : x = y
  · subst h; simp
  · rw [decide_eq_false h]; exact beq_eq_false_iff_ne.mpr h
theorem xEq_ii : oEq (.int i) (.int j) R = R (.d (.bl (decide (i = j)))) := by show (True ∧ _) = _; rw [true_and]; rfl
theorem xEq_ss : oEq (.str x) (.str y) R = R (.d (.bl (decide (x = y)))) := by show (True ∧ R (.d (.bl (x == y)))) = _; rw [true_and, Str.beq_dec]
theorem xEq_nn : oEq .non .non R = R (.d (.bl true)) := by show (True ∧ _) = _; rw [true_and]; rfl
theorem xEq_bb : oEq (.bl b) (.bl c) R = R (.d (.bl (b == c))) := by show (True ∧ _) = _; rw [true_and]; rfl
theorem xEq_ni : oEq .non (.int j) R = R (.d (.bl false)) := by show (True ∧ _) = _; rw [true_and]; rfl
theorem xEq_in : oEq (.int j) .non R = R (.d (.bl false)) := by show (True ∧ _) = _; rw [true_and]; rfl
theorem xNe_ii : oNe (.int i) (.int j) R = R (.d (.bl (!decide (i = j)))) := by show (True ∧ _) = _; rw [true_and]; rfl
theorem xNe_ss : oNe (.str x) (.str y) R = R (.d (.bl (!decide (x = y)))) := by show (True ∧ R (.d (.bl (!(x == y))))) = _; rw [true_and, Str.beq_dec]
theorem xLt_ii : oLt (.int i) (.int j) R = R (.d (.bl (decide (i < j)))) := by show (True ∧ _) = _; rw [true_and]; rfl
theorem xGt_ii : oGt (.int i) (.int j) R = R (.d (.bl (decide (j < i)))) := by show (True ∧ _) = _; rw [true_and]; rfl
theorem not_dec (p : Prop) [Decidable p] : (!decide p) = decide (¬ p) := by by_cases h : p <;> simp [h]
theorem xLe_ii : oLe (.int i) (.int j) R = R (.d (.bl (decide (i ≤ j)))) := by
  show (True ∧ R (.d (.bl (!decide (j < i))))) = _
  rw [true_and, not_dec]
  congr 3
  simp
theorem xGe_ii : oGe (.int i) (.int j) R = R (.d (.bl (decide (j ≤ i)))) := by
  show (True ∧ R (.d (.bl (!decide (i < j))))) = _
  rw [true_and, not_dec]
  congr 3
  simp
theorem xAdd_ii : oAdd (.int i) (.int j) R = R (.d (.int (i + j))) := propext Iff.rfl
theorem xAdd_ss : oAdd (.str x) (.str y) R = (x.length + y.length ≤ sizeLine ∧ R (.d (.str (x ++ y)))) := propext Iff.rfl
theorem xAdd_tt : oAdd (.tup xs) (.tup ys) R = (xs.length + ys.length ≤ sizeLine ∧ R (.d (.tup (xs ++ ys)))) := propext Iff.rfl
theorem xAdd_ll : oAdd (.lst xs) (.lst ys) R = (xs.length + ys.length ≤ sizeLine ∧ R (.l (xs ++ ys))) := propext Iff.rfl
theorem xSub_ii : oSub (.int i) (.int j) R = R (.d (.int (i - j))) := propext Iff.rfl
theorem xMul_ii : oMul (.int i) (.int j) R = (cMul i j ∧ R (.d (.int (i * j)))) := propext Iff.rfl
theorem xDiv_ii : oDiv (.int i) (.int j) R = (cDiv i j ∧ R (.d (.int (i / j)))) := propext Iff.rfl
theorem xMod_ii : oMod (.int i) (.int j) R = (0 < j ∧ R (.d (.int (i % j)))) := propext Iff.rfl
theorem xPow_ii : oPow (.int i) (.int j) R = (CPow i j ∧ R (.d (.int (i ^ j.toNat)))) := propext Iff.rfl
theorem xNeg_i : oNeg (.int i) R = R (.d (.int (-i))) := propext Iff.rfl
theorem xInt_i : oInt (.int i) R = R (.d (.int i)) := propext Iff.rfl
theorem xInt_b : oInt (.bl b) R = R (.d (.int (if b then 1 else 0))) := propext Iff.rfl
theorem xLen_t : oLen (.tup xs) R = R (.d (.int xs.length)) := propext Iff.rfl
theorem xLen_l : oLen (.lst xs) R = R (.d (.int xs.length)) := propext Iff.rfl
theorem xLen_s : oLen (.str x) R = (x.length ≤ sizeLine ∧ R (.d (.int x.length))) := propext Iff.rfl
theorem xLen_d : oLen (.dic ks xs) R = R (.d (.int ks.length)) := propext Iff.rfl
theorem xTuple_l : oTuple (.lst xs) R = R (.d (.tup xs)) := propext Iff.rfl
theorem xTuple_t : oTuple (.tup xs) R = R (.d (.tup xs)) := propext Iff.rfl
theorem xList_l : oList (.lst xs) R = R (.l xs) := propext Iff.rfl
theorem xList_t : oList (.tup xs) R = R (.l xs) := propext Iff.rfl
theorem xIx_t : oIx (.tup xs) (.int i) R = match atD xs i with
  | some d => R (.d d)
  | none => False := propext Iff.rfl
theorem xIx_l : oIx (.lst xs) (.int i) R = match atD xs i with
  | some d => R (.d d)
  | none => False := propext Iff.rfl
theorem xIx_s : oIx (.str x) (.int i) R = (x.length ≤ sizeLine ∧ match atD x.cps.toList i with
  | some c => R (.d (.str ⟨#[c]⟩))
  | none => False) := propext Iff.rfl
theorem xIx_di : oIx (.dic ks xs) (.int i) R = match dlook ks xs (.inl i) with
  | some d => R (.d d)
  | none => False := propext Iff.rfl
theorem xIx_ds : oIx (.dic ks xs) (.str x) R = match dlook ks xs (.inr x) with
  | some d => R (.d d)
  | none => False := propext Iff.rfl
section
variable {α : Type} {p q r s t u v w : α} {l : List α}
theorem at0 : atD (p :: l) 0 = some p := rfl
theorem at1 : atD (p :: q :: l) 1 = some q := rfl
theorem at2 : atD (p :: q :: r :: l) 2 = some r := rfl
theorem at3 : atD (p :: q :: r :: s :: l) 3 = some s := rfl
theorem at4 : atD (p :: q :: r :: s :: t :: l) 4 = some t := rfl
theorem at5 : atD (p :: q :: r :: s :: t :: u :: l) 5 = some u := rfl
theorem at6 : atD (p :: q :: r :: s :: t :: u :: v :: l) 6 = some v := rfl
theorem at7 : atD (p :: q :: r :: s :: t :: u :: v :: w :: l) 7 = some w := rfl
theorem atD_nat {n : Nat} : atD l (n : Int) = l[n]? := rfl
theorem atD_in {l : List α} {i : Int} (h0 : 0 ≤ i) (h1 : i < l.length) : ∃ d, atD l i = some d ∧ d ∈ l := by
  obtain ⟨n, rfl⟩ := Int.eq_ofNat_of_zero_le h0
  have h : n < l.length := by simpa using h1
  exact ⟨l[n], by show l[n]? = _; rw [List.getElem?_eq_getElem h], List.getElem_mem h⟩
end
theorem xIs_nn {f : Bool → Bool} : oIs f .non .non R = R (.d (.bl (f true))) := propext Iff.rfl
theorem xIs_i {f : Bool → Bool} : oIs f (.int i) .non R = R (.d (.bl (f false))) := propext Iff.rfl
theorem xIs_s {f : Bool → Bool} : oIs f (.str x) .non R = R (.d (.bl (f false))) := propext Iff.rfl
theorem xIs_b {f : Bool → Bool} : oIs f (.bl b) .non R = R (.d (.bl (f false))) := propext Iff.rfl
theorem xIs_t {f : Bool → Bool} : oIs f (.tup xs) .non R = R (.d (.bl (f false))) := propext Iff.rfl
theorem xIs_l {f : Bool → Bool} : oIs f (.lst xs) .non R = R (.d (.bl (f false))) := propext Iff.rfl
theorem xIs_d {f : Bool → Bool} : oIs f (.dic ks xs) .non R = R (.d (.bl (f false))) := propext Iff.rfl
theorem xIsB_n {f : Bool → Bool} : oIsB f .non (.bl b) R = R (.d (.bl (f false))) := by
  refine propext ⟨fun h => ?_, fun h => .inl ⟨true, rfl, rfl, h⟩⟩
  rcases h with ⟨_, _, _, h⟩ | ⟨_, z, _⟩ | ⟨_, z, _⟩ | ⟨_, z, _⟩
  · exact h
  · cases z
  · cases z
  · cases z
theorem xIsB_i {f : Bool → Bool} : oIsB f (.int i) (.bl b) R = R (.d (.bl (f false))) := by
  refine propext ⟨fun h => ?_, fun h => .inr (.inr (.inl ⟨i, rfl, h⟩))⟩
  rcases h with ⟨_, z, _⟩ | ⟨_, z, _⟩ | ⟨_, z, h⟩ | ⟨_, z, _⟩
  · cases z
  · cases z
  · exact h
  · cases z
theorem xIsB_s {f : Bool → Bool} : oIsB f (.str x) (.bl b) R = R (.d (.bl (f false))) := by
  refine propext ⟨fun h => ?_, fun h => .inr (.inr (.inr ⟨x, rfl, h⟩))⟩
  rcases h with ⟨_, z, _⟩ | ⟨_, z, _⟩ | ⟨_, z, _⟩ | ⟨_, z, h⟩
  · cases z
  · cases z
  · cases z
  · exact h
theorem xIsB_b {f : Bool → Bool} : oIsB f (.bl c) (.bl b) R = R (.d (.bl (f (decide (c = b))))) := by
  refine propext ⟨fun h => ?_, fun h => .inr (.inl ⟨c, rfl, h⟩)⟩
  rcases h with ⟨_, z, _⟩ | ⟨_, z, h⟩ | ⟨_, z, _⟩ | ⟨_, z, _⟩
  · cases z
  · cases z; exact h
  · cases z
  · cases z
/-! isinstance -/
theorem yInt_i : oIsT isInt (.int i) R = R (.d (.bl true)) := propext Iff.rfl
theorem yInt_b : oIsT isInt (.bl b) R = R (.d (.bl true)) := propext Iff.rfl
theorem yInt_n : oIsT isInt .non R = R (.d (.bl false)) := propext Iff.rfl
theorem yInt_s : oIsT isInt (.str x) R = R (.d (.bl false)) := propext Iff.rfl
theorem yInt_t : oIsT isInt (.tup xs) R = R (.d (.bl false)) := propext Iff.rfl
theorem yInt_l : oIsT isInt (.lst xs) R = R (.d (.bl false)) := propext Iff.rfl
theorem yBool_i : oIsT (isOnly "bool") (.int i) R = R (.d (.bl false)) := propext Iff.rfl
theorem yBool_b : oIsT (isOnly "bool") (.bl b) R = R (.d (.bl true)) := propext Iff.rfl
theorem yBool_n : oIsT (isOnly "bool") .non R = R (.d (.bl false)) := propext Iff.rfl
theorem yBool_s : oIsT (isOnly "bool") (.str x) R = R (.d (.bl false)) := propext Iff.rfl
theorem yBool_t : oIsT (isOnly "bool") (.tup xs) R = R (.d (.bl false)) := propext Iff.rfl
theorem yBool_l : oIsT (isOnly "bool") (.lst xs) R = R (.d (.bl false)) := propext Iff.rfl
theorem yStr_i : oIsT (isOnly "str") (.int i) R = R (.d (.bl false)) := propext Iff.rfl
theorem yStr_b : oIsT (isOnly "str") (.bl b) R = R (.d (.bl false)) := propext Iff.rfl
theorem yStr_n : oIsT (isOnly "str") .non R = R (.d (.bl false)) := propext Iff.rfl
theorem yStr_s : oIsT (isOnly "str") (.str x) R = R (.d (.bl true)) := propext Iff.rfl
theorem yStr_t : oIsT (isOnly "str") (.tup xs) R = R (.d (.bl false)) := propext Iff.rfl
theorem yStr_l : oIsT (isOnly "str") (.lst xs) R = R (.d (.bl false)) := propext Iff.rfl
theorem yTup_i : oIsT (isOnly "tuple") (.int i) R = R (.d (.bl false)) := propext Iff.rfl
theorem yTup_b : oIsT (isOnly "tuple") (.bl b) R = R (.d (.bl false)) := propext Iff.rfl
theorem yTup_n : oIsT (isOnly "tuple") .non R = R (.d (.bl false)) := propext Iff.rfl
theorem yTup_s : oIsT (isOnly "tuple") (.str x) R = R (.d (.bl false)) := propext Iff.rfl
theorem yTup_t : oIsT (isOnly "tuple") (.tup xs) R = R (.d (.bl true)) := propext Iff.rfl
theorem yTup_l : oIsT (isOnly "tuple") (.lst xs) R = R (.d (.bl false)) := propext Iff.rfl
theorem yLst_i : oIsT (isOnly "list") (.int i) R = R (.d (.bl false)) := propext Iff.rfl
theorem yLst_n : oIsT (isOnly "list") .non R = R (.d (.bl false)) := propext Iff.rfl
theorem yLst_s : oIsT (isOnly "list") (.str x) R = R (.d (.bl false)) := propext Iff.rfl
theorem yLst_t : oIsT (isOnly "list") (.tup xs) R = R (.d (.bl false)) := propext Iff.rfl
theorem yLst_l : oIsT (isOnly "list") (.lst xs) R = R (.d (.bl true)) := propext Iff.rfl
/-! in -/
theorem xIn_t {f : Bool → Bool} : oIn f (.str x) (.tup ys) R = (cIn (.str x) ys ∧ R (.d (.bl (f (ys.any fun z => D.eq z (.str x)))))) := propext Iff.rfl
theorem xIn_l {f : Bool → Bool} : oIn f (.str x) (.lst ys) R = (cIn (.str x) ys ∧ R (.d (.bl (f (ys.any fun z => D.eq z (.str x)))))) := propext Iff.rfl
theorem xIn_it {f : Bool → Bool} : oIn f (.int i) (.tup ys) R = (cIn (.int i) ys ∧ R (.d (.bl (f (ys.any fun z => D.eq z (.int i)))))) := propext Iff.rfl
theorem xIn_il {f : Bool → Bool} : oIn f (.int i) (.lst ys) R = (cIn (.int i) ys ∧ R (.d (.bl (f (ys.any fun z => D.eq z (.int i)))))) := propext Iff.rfl
theorem xIn_sd {f : Bool → Bool} : oIn f (.str x) (.dic ks ys) R = R (.d (.bl (f (dlook ks ys (.inr x)).isSome))) := propext Iff.rfl
/-! pairs of ints compared -/
theorem ord_ii {a b c d : Int} : cOrd (.tup [.int a, .int b]) (.tup [.int c, .int d]) := ⟨⟨⟨by rfl, by rfl⟩, (fun z => by cases z), by rfl⟩, by show min 1 1 ≤ 50; decide⟩
theorem lt_ii {a b c d : Int} : D.lt (.tup [.int a, .int b]) (.tup [.int c, .int d]) = decide (a < c ∨ (a = c ∧ b < d)) := by
  show (if (a == c) = true then (if (b == d) = true then false else decide (b < d)) else decide (a < c)) = _
  by_cases h : a = c
  · subst h
    by_cases h2 : b = d
    · subst h2; simp
    · simp [h2]
  · simp [h]
theorem xLt_pp {a b c d : Int} : oLt (.tup [.int a, .int b]) (.tup [.int c, .int d]) R = R (.d (.bl (decide (a < c ∨ (a = c ∧ b < d))))) := by
  show (_ ∧ _) = _
  rw [eq_true (ord_ii (a := a) (b := b) (c := c) (d := d)), true_and, lt_ii]
theorem xGt_pp {a b c d : Int} : oGt (.tup [.int a, .int b]) (.tup [.int c, .int d]) R = R (.d (.bl (decide (c < a ∨ (c = a ∧ d < b))))) := by
  show (_ ∧ _) = _
  rw [eq_true (ord_ii (a := c) (b := d) (c := a) (d := b)), true_and, lt_ii]
theorem xLe_pp {a b c d : Int} : oLe (.tup [.int a, .int b]) (.tup [.int c, .int d]) R = R (.d (.bl (!decide (c < a ∨ (c = a ∧ d < b))))) := by
  show (_ ∧ _) = _
  rw [eq_true (ord_ii (a := c) (b := d) (c := a) (d := b)), true_and, lt_ii]
theorem xGe_pp {a b c d : Int} : oGe (.tup [.int a, .int b]) (.tup [.int c, .int d]) R = R (.d (.bl (!decide (a < c ∨ (a = c ∧ b < d))))) := by
  show (_ ∧ _) = _
  rw [eq_true (ord_ii (a := a) (b := b) (c := c) (d := d)), true_and, lt_ii]
theorem xII {g : Int → Int → Int} : oII g [.int i, .int j] R = R (.d (.int (g i j))) := propext Iff.rfl
end
/-! a statement's value is weakened -/
theorem deal_ok {m : Int} {μ : Mu} {R : Sl → Mu → Prop} (h0 : 0 < m) (h1 : m < 1073741824) (h : ∀ d : Int, 0 ≤ d → d < m → R (.d (.int d)) μ) : fnDeal [.dlr, .int m] μ R := ⟨m, rfl, h0, h1, h⟩
/-! bounds -/
def Sm (a : Nat) (i : Int) : Prop := i.natAbs < 2 ^ a
theorem Sm.mono {a b : Nat} {i : Int} (h : Sm a i) (l : a ≤ b) : Sm b i := Nat.lt_of_lt_of_le h (Nat.pow_le_pow_right (by decide) l)
theorem Sm.add {a b : Nat} {i j : Int} (h : Sm a i) (h' : Sm b j) : Sm (max a b + 1) (i + j) := by
  have h1 := h.mono (Nat.le_max_left a b)
  have h2 := h'.mono (Nat.le_max_right a b)
  unfold Sm at *
  rw [Nat.pow_succ]
  omega
theorem Sm.neg {a : Nat} {i : Int} (h : Sm a i) : Sm a (-i) := by unfold Sm at *; omega
theorem Sm.sub {a b : Nat} {i j : Int} (h : Sm a i) (h' : Sm b j) : Sm (max a b + 1) (i - j) := by rw [Int.sub_eq_add_neg]; exact h.add h'.neg
theorem Sm.mul {a b : Nat} {i j : Int} (h : Sm a i) (h' : Sm b j) : Sm (a + b) (i * j) := by
  unfold Sm at *
  rw [Int.natAbs_mul, Nat.pow_add]
  exact Nat.mul_lt_mul'' h h'
theorem Sm.cmul {a b : Nat} {i j : Int} (h : Sm a i) (h' : Sm b j) (l : a + b ≤ 900000 := by decide) : cMul i j :=
  .inr (wide_mul (h.mono (Nat.le_succ a)) (h'.mono (Nat.le_succ b)) (Nat.succ_pos _) (Nat.succ_pos _) (by omega))
theorem Sm.cdiv {a : Nat} {i j : Int} (h : Sm a j) (h0 : 0 < j) (l : a ≤ 8999 := by decide) : cDiv i j := by
  refine ⟨h0, .inr ?_⟩
  have hn : j.natAbs ≠ 0 := by omega
  have := (Nat.log2_lt hn).mpr h
  omega
theorem cMul_small {i j : Int} (h : -(2 ^ 64) < j) (h' : j < 2 ^ 64) : cMul i j := .inl (.inr ⟨h, h'⟩)
theorem cMul_smallL {i j : Int} (h : -(2 ^ 64) < i) (h' : i < 2 ^ 64) : cMul i j := .inl (.inl ⟨h, h'⟩)
/-! ### one step of a body, at a state in sight -/
def vR : Sl → Nat → (Sl → S → Prop) → S → Prop
  | .d d, _, R, s => R (.d d) s
  | .l _, i, R, s => R (.b i) s
  | .k _ _, i, R, s => R (.b i) s
  | .t _ _, i, R, s => R (.b i) s
  | _, _, _, _ => False
def lkS : Sl → (D → Prop) → Prop
  | .d d, k => k d
  | .l ds, k => k (.lst ds)
  | .k ks ds, k => k (.dic ks ds)
  | .t ks ds, k => k (.dit ks ds)
  | _, _ => False
def tBk (r : Sl) (s : S) (R : Bool → S → Prop) : Prop := match r with
  | .d (.bl b) => R b s
  | _ => False
def rtk : Sl → S → (Sl → Mu → Prop) → Prop
  | .b i, s, R => R (get s.ρ i) s.μ
  | r, s, R => R r s.μ
def r1k (ds : List D) (P : List D → S → Prop) (s : S) : Prop := match ds with
  | [.int j] => (-(2 ^ 62) ≤ j ∧ j < 2 ^ 62) ∧ P (rng 0 j.toNat) s
  | _ => False
def r2k (ds : List D) (P : List D → S → Prop) (s : S) : Prop := match ds with
  | [.int i, .int j] => (-(2 ^ 62) ≤ i ∧ i < 2 ^ 62 ∧ -(2 ^ 62) ≤ j ∧ j < 2 ^ 62) ∧ P (rng i (j - i).toNat) s
  | _ => False
def psk (r : Sl) (s : S) (R : Option Int → S → Prop) : Prop := match r with
  | .d (.int i) => R (some i) s
  | _ => False
def appk : Sl → Nat → D → S → (S → Prop) → Prop
  | .l ds, i, d, s, k => ds.length < sizeLine ∧ k (s.set i (.l (ds ++ [d])))
  | _, _, _, _, _ => False
def appk0 : Sl → Prop → Prop
  | .l _, P => P
  | _, _ => False
def chk (r : Sl) (k : Bool → Prop) : Prop := match r with
  | .d (.bl b) => k b
  | _ => False
section
variable {ρ : List Sl} {μ : Mu} {R : Sl → S → Prop} {RT : Bool → S → Prop} {RA : List D → S → Prop} {RS : S → Prop} {RM : Sl → Mu → Prop} {RI : List D → S → Prop} {RO : Option Int → S → Prop} {s : S} {d e : D} {ds es : List D} {ks : List Key} {i j n : Nat} {b : Bool} {x : Str} {φ φ1 φ2 φ3 : PhiE} {ψ : PhiA} {τ τ1 τ2 : PhiT} {o : O2} {o1 : O1} {oa : OA} {F : FD} {k : D → Prop} {ka : D → S → Prop} {Φ Φ1 Φ2 : PhiS} {Δ : DE} {γ : PhiG} {γs : PhiGs} {π : PhiI} {gD : List D → List D} {πl πh : PhiO} {kb : Bool → Prop} {l : List Sl} {y : Sl}
theorem z0 : get (y :: l) 0 = y := rfl
theorem z1 : get (y :: l) (n + 1) = get l n := rfl
theorem z2 : put (y :: l) 0 (.d d) = .d d :: l := rfl
theorem zput0 {y' : Sl} : put (y :: l) 0 y' = y' :: l := rfl
theorem zput1 {y' : Sl} : put (y :: l) (n + 1) y' = y :: put l n y' := rfl
theorem zC : eC d ⟨ρ, μ⟩ R = R (.d d) ⟨ρ, μ⟩ := propext Iff.rfl
theorem zV : eV i ⟨ρ, μ⟩ R = vR (get ρ i) i R ⟨ρ, μ⟩ := by
  unfold eV
  cases get ρ i <;> rfl
theorem zv_d : vR (.d d) i R s = R (.d d) s := propext Iff.rfl
theorem zv_l : vR (.l ds) i R s = R (.b i) s := propext Iff.rfl
theorem zv_k : vR (.k ks ds) i R s = R (.b i) s := propext Iff.rfl
theorem zOp : eOp o φ1 φ2 ⟨ρ, μ⟩ R = φ1 ⟨ρ, μ⟩ fun r1 s1 => φ2 s1 fun r2 s2 => lk r1 s2 fun x => lk r2 s2 fun y => o x y fun r => R r s2 := propext Iff.rfl
theorem zUn : eUn o1 φ ⟨ρ, μ⟩ R = φ ⟨ρ, μ⟩ fun r s1 => lk r s1 fun x => o1 x fun r => R r s1 := propext Iff.rfl
theorem zlk_d : lk (.d d) s k = k d := propext Iff.rfl
theorem zlk_l : lk (.l ds) s k = k (.lst ds) := propext Iff.rfl
theorem zlk_k : lk (.k ks ds) s k = k (.dic ks ds) := propext Iff.rfl
theorem zlk_b : lk (.b i) ⟨ρ, μ⟩ k = lkS (get ρ i) k := by
  show (match get ρ i with
    | .d d => k d
    | .l ds => k (.lst ds)
    | .k ks ds => k (.dic ks ds)
    | .t ks ds => k (.dit ks ds)
    | _ => False) = _
  cases get ρ i <;> rfl
theorem zls_d : lkS (.d d) k = k d := propext Iff.rfl
theorem zls_l : lkS (.l ds) k = k (.lst ds) := propext Iff.rfl
theorem zls_k : lkS (.k ks ds) k = k (.dic ks ds) := propext Iff.rfl
theorem zfz_d : fz (.d d) s ka = ka d s := propext Iff.rfl
theorem zfz_l : fz (.l ds) s ka = ka (.lst ds) s := propext Iff.rfl
theorem zfz_k : fz (.k ks ds) s ka = ka (.dic ks ds) s := propext Iff.rfl
theorem zfz_b : fz (.b i) ⟨ρ, μ⟩ ka = ka (frzD (get ρ i)) ⟨put ρ i (.d (frzD (get ρ i))), μ⟩ := propext Iff.rfl
theorem zfr_l : frzD (.l ds) = .lst ds := rfl
theorem zfr_k : frzD (.k ks ds) = .dic ks ds := rfl
theorem zfr_d : frzD (.d d) = d := rfl
theorem ztB : tB φ ⟨ρ, μ⟩ RT = φ ⟨ρ, μ⟩ fun r s1 => tBk r s1 RT := propext Iff.rfl
theorem zbk : tBk (.d (.bl b)) s RT = RT b s := propext Iff.rfl
theorem ztT : tT φ ⟨ρ, μ⟩ RT = φ ⟨ρ, μ⟩ fun r s1 => lk r s1 fun d => truD (fun b => RT b s1) d := propext Iff.rfl
theorem ztr_b : truD kb (.bl b) = kb b := propext Iff.rfl
theorem ztr_i {i : Int} : truD kb (.int i) = kb (i != 0) := propext Iff.rfl
theorem ztr_n : truD kb .non = kb false := propext Iff.rfl
theorem ztr_t : truD kb (.tup ds) = kb (!ds.isEmpty) := propext Iff.rfl
theorem ztr_l : truD kb (.lst ds) = kb (!ds.isEmpty) := propext Iff.rfl
theorem ztr_s : truD kb (.str x) = (x.length ≤ sizeLine ∧ kb ((x.length : Int) != 0)) := propext Iff.rfl
theorem ztAnd : tAnd τ1 τ2 ⟨ρ, μ⟩ RT = τ1 ⟨ρ, μ⟩ fun c s1 => if c = true then τ2 s1 RT else RT false s1 := propext Iff.rfl
theorem ztOr : tOr τ1 τ2 ⟨ρ, μ⟩ RT = τ1 ⟨ρ, μ⟩ fun c s1 => if c = true then RT true s1 else τ2 s1 RT := propext Iff.rfl
theorem ztNot : tNot τ ⟨ρ, μ⟩ RT = τ ⟨ρ, μ⟩ fun c s1 => RT (!c) s1 := propext Iff.rfl
theorem zeAnd : eAnd φ1 φ2 ⟨ρ, μ⟩ R = tB φ1 ⟨ρ, μ⟩ fun c s1 => if c = true then φ2 s1 R else R (.d (.bl false)) s1 := propext Iff.rfl
theorem zeOr : eOr φ1 φ2 ⟨ρ, μ⟩ R = tB φ1 ⟨ρ, μ⟩ fun c s1 => if c = true then R (.d (.bl true)) s1 else φ2 s1 R := propext Iff.rfl
theorem zeNot : eNot τ ⟨ρ, μ⟩ R = τ ⟨ρ, μ⟩ fun c s1 => R (.d (.bl !c)) s1 := propext Iff.rfl
theorem zeIf : eIf τ φ1 φ2 ⟨ρ, μ⟩ R = τ ⟨ρ, μ⟩ fun c s1 => if c = true then φ1 s1 R else φ2 s1 R := propext Iff.rfl
theorem zaNil : aNil ⟨ρ, μ⟩ RA = RA [] ⟨ρ, μ⟩ := propext Iff.rfl
theorem zaCons : aCons φ ψ ⟨ρ, μ⟩ RA = φ ⟨ρ, μ⟩ fun r s1 => fz r s1 fun d s2 => ψ s2 fun ds s3 => RA (d :: ds) s3 := propext Iff.rfl
theorem zTup : eTup ψ ⟨ρ, μ⟩ R = ψ ⟨ρ, μ⟩ fun ds s1 => ds.length ≤ sizeLine ∧ R (.d (.tup ds)) s1 := propext Iff.rfl
theorem zLst : eLst ψ ⟨ρ, μ⟩ R = ψ ⟨ρ, μ⟩ fun ds s1 => ds.length ≤ sizeLine ∧ R (.l ds) s1 := propext Iff.rfl
theorem zCB : eCB oa ψ ⟨ρ, μ⟩ R = ψ ⟨ρ, μ⟩ fun ds s1 => oa ds fun r => R r s1 := propext Iff.rfl
theorem zCall : eCall F es ψ ⟨ρ, μ⟩ R = ψ ⟨ρ, μ⟩ fun ds s1 => F (ds ++ es) s1.μ fun r μ' => R r ⟨s1.ρ, μ'⟩ := propext Iff.rfl
theorem zCallK : eCallK F gD ψ ⟨ρ, μ⟩ R = ψ ⟨ρ, μ⟩ fun ds s1 => F (gD ds) s1.μ fun r μ' => R r ⟨s1.ρ, μ'⟩ := propext Iff.rfl
theorem zfdn : fdn n F (d :: ds) μ RM = ((d :: ds).length = n ∧ F (d :: ds) μ RM) := propext Iff.rfl
theorem zDicK : eDicK ⟨ρ, μ⟩ R = R (.k [] []) ⟨ρ, μ⟩ := propext Iff.rfl
theorem zpNone : pNone ⟨ρ, μ⟩ RO = RO none ⟨ρ, μ⟩ := propext Iff.rfl
theorem zpSome : pSome φ ⟨ρ, μ⟩ RO = φ ⟨ρ, μ⟩ fun r s1 => psk r s1 RO := propext Iff.rfl
theorem zpsk {i : Int} : psk (.d (.int i)) s RO = RO (some i) s := propext Iff.rfl
theorem zSl : eSl φ πl πh ⟨ρ, μ⟩ R = φ ⟨ρ, μ⟩ fun r s1 => πl s1 fun i s2 => πh s2 fun j s3 => lk r s3 fun x => oSl x i j fun r => R r s3 := propext Iff.rfl
theorem zChain {o' : O2} : eChain o o' φ1 φ2 φ3 ⟨ρ, μ⟩ R = φ1 ⟨ρ, μ⟩ fun r1 s1 => φ2 s1 fun r2 s2 => lk r1 s2 fun x => lk r2 s2 fun y => o x y fun z => chk z fun k => if k = true then φ3 s2 fun r3 s3 => lk r2 s3 fun y' => lk r3 s3 fun w => o' y' w fun r => R r s3 else R (.d (.bl false)) s2 := propext Iff.rfl
theorem zchk : chk (.d (.bl b)) kb = kb b := propext Iff.rfl
theorem zSeq : sSeq Φ1 Φ2 Δ ⟨ρ, μ⟩ = Φ1 ⟨Φ2 Δ, Δ.rt, Δ.bk, Δ.ct⟩ ⟨ρ, μ⟩ := propext Iff.rfl
theorem zsNil : sNil Δ ⟨ρ, μ⟩ = Δ.nx ⟨ρ, μ⟩ := propext Iff.rfl
theorem zBreak : sBreak Δ ⟨ρ, μ⟩ = Δ.bk ⟨ρ, μ⟩ := propext Iff.rfl
theorem zCont : sCont Δ ⟨ρ, μ⟩ = Δ.ct ⟨ρ, μ⟩ := propext Iff.rfl
theorem zIf : sIf τ Φ1 Φ2 Δ ⟨ρ, μ⟩ = τ ⟨ρ, μ⟩ fun c s1 => if c = true then Φ1 Δ s1 else Φ2 Δ s1 := propext Iff.rfl
theorem zSet : sSet i φ Δ ⟨ρ, μ⟩ = φ ⟨ρ, μ⟩ fun r s1 => st1 i r s1 Δ.nx := propext Iff.rfl
theorem zs_d : st1 i (.d d) ⟨ρ, μ⟩ RS = RS ⟨put ρ i (.d d), μ⟩ := propext Iff.rfl
theorem zs_l : st1 i (.l ds) ⟨ρ, μ⟩ RS = RS ⟨put ρ i (.l ds), μ⟩ := propext Iff.rfl
theorem zs_k : st1 i (.k ks ds) ⟨ρ, μ⟩ RS = RS ⟨put ρ i (.k ks ds), μ⟩ := propext Iff.rfl
theorem zs_b : st1 i (.b j) ⟨ρ, μ⟩ RS = RS ⟨put (put ρ j (.d (frzD (get ρ j)))) i (.d (frzD (get ρ j))), μ⟩ := propext Iff.rfl
theorem zRet : sRet φ Δ ⟨ρ, μ⟩ = φ ⟨ρ, μ⟩ fun r s1 => rtk r s1 Δ.rt := by
  show φ ⟨ρ, μ⟩ (fun r s1 => match r with
    | .b i => Δ.rt (get s1.ρ i) s1.μ
    | r => Δ.rt r s1.μ) = _
  congr 1
  funext r s1
  cases r <;> rfl
theorem zr_d : rtk (.d d) ⟨ρ, μ⟩ RM = RM (.d d) μ := propext Iff.rfl
theorem zr_l : rtk (.l ds) ⟨ρ, μ⟩ RM = RM (.l ds) μ := propext Iff.rfl
theorem zr_k : rtk (.k ks ds) ⟨ρ, μ⟩ RM = RM (.k ks ds) μ := propext Iff.rfl
theorem zr_b : rtk (.b i) ⟨ρ, μ⟩ RM = RM (get ρ i) μ := propext Iff.rfl
theorem zRetN : sRetN Δ ⟨ρ, μ⟩ = Δ.rt (.d .non) μ := propext Iff.rfl
theorem zDrop : sDrop φ Δ ⟨ρ, μ⟩ = φ ⟨ρ, μ⟩ fun _ s1 => Δ.nx s1 := propext Iff.rfl
theorem zFor : sFor π γ Φ Δ ⟨ρ, μ⟩ = π ⟨ρ, μ⟩ fun ds s1 => forL γ Φ Δ ds s1 := propext Iff.rfl
theorem ziE : iE φ ⟨ρ, μ⟩ RI = φ ⟨ρ, μ⟩ fun r s1 => fz r s1 fun d s2 => itemsOf d fun ds => RI ds s2 := propext Iff.rfl
theorem zit_t {K : List D → Prop} : itemsOf (.tup ds) K = K ds := propext Iff.rfl
theorem zit_l {K : List D → Prop} : itemsOf (.lst ds) K = K ds := propext Iff.rfl
theorem zit_s {K : List D → Prop} : itemsOf (.str x) K = K (x.cps.toList.map fun c => .str ⟨#[c]⟩) := propext Iff.rfl
theorem zR1 : iR1 ψ ⟨ρ, μ⟩ RI = ψ ⟨ρ, μ⟩ fun ds s1 => r1k ds RI s1 := propext Iff.rfl
theorem zr1 {j : Int} : r1k [.int j] RI s = ((-(2 ^ 62) ≤ j ∧ j < 2 ^ 62) ∧ RI (rng 0 j.toNat) s) := propext Iff.rfl
theorem zR2 : iR2 ψ ⟨ρ, μ⟩ RI = ψ ⟨ρ, μ⟩ fun ds s1 => r2k ds RI s1 := propext Iff.rfl
theorem zr2 {i j : Int} : r2k [.int i, .int j] RI s = ((-(2 ^ 62) ≤ i ∧ i < 2 ^ 62 ∧ -(2 ^ 62) ≤ j ∧ j < 2 ^ 62) ∧ RI (rng i (j - i).toNat) s) := propext Iff.rfl
theorem zgN : gN i d ⟨ρ, μ⟩ RS = RS ⟨put ρ i (.d d), μ⟩ := propext Iff.rfl
theorem zAsg : sAsg φ γ Δ ⟨ρ, μ⟩ = φ ⟨ρ, μ⟩ fun r s1 => fz r s1 fun d s2 => γ d s2 Δ.nx := propext Iff.rfl
theorem zgT : gT n γs (.tup ds) ⟨ρ, μ⟩ RS = if ds.length = n then γs ds ⟨ρ, μ⟩ RS else False := propext Iff.rfl
theorem zgsC : gsCons γ γs (d :: ds) ⟨ρ, μ⟩ RS = γ d ⟨ρ, μ⟩ fun s1 => γs ds s1 RS := propext Iff.rfl
theorem zgsN : gsNil [] ⟨ρ, μ⟩ RS = RS ⟨ρ, μ⟩ := propext Iff.rfl
theorem zApp : sApp i φ Δ ⟨ρ, μ⟩ = appk0 (get ρ i) (φ ⟨ρ, μ⟩ fun r s1 => fz r s1 fun d s2 => appk (get s2.ρ i) i d s2 Δ.nx) := by
  unfold sApp
  cases get ρ i with
  | l ds =>
    show φ ⟨ρ, μ⟩ _ = φ ⟨ρ, μ⟩ _
    congr 1
    funext r s1
    congr 1
    funext d s2
    cases get s2.ρ i <;> rfl
  | _ => rfl
theorem zap0 {P : Prop} : appk0 (.l ds) P = P := propext Iff.rfl
theorem zap : appk (.l ds) i d ⟨ρ, μ⟩ RS = (ds.length < sizeLine ∧ RS ⟨put ρ i (.l (ds ++ [d])), μ⟩) := propext Iff.rfl
theorem forL_nil : forL γ Φ Δ [] s = Δ.nx s := propext Iff.rfl
theorem forL_cons : forL γ Φ Δ (d :: ds) ⟨ρ, μ⟩ = γ d ⟨ρ, μ⟩ fun s1 => Φ ⟨forL γ Φ Δ ds, Δ.rt, Δ.nx, forL γ Φ Δ ds⟩ s1 := propext Iff.rfl
theorem zLc {vs : List Nat} : eLc π vs γ τ φ ⟨ρ, μ⟩ R = π ⟨ρ, μ⟩ fun ds s1 => lcL vs s1 γ τ φ R ds [] (clr vs s1) := propext Iff.rfl
theorem zclr : clr [i] ⟨ρ, μ⟩ = ⟨put ρ i .no, μ⟩ := rfl
theorem zclr2 : clr [i, j] ⟨ρ, μ⟩ = ⟨put (put ρ i .no) j .no, μ⟩ := rfl
theorem zbck {s0 : S} : bck [i] s0 ⟨ρ, μ⟩ = ⟨put ρ i (keepD (get s0.ρ i)), μ⟩ := rfl
theorem zkeep_d : keepD (.d d) = .d d := rfl
theorem zkeep_n : keepD .no = .no := rfl
theorem lcL_nil {vs : List Nat} {s0 : S} {acc : List D} : lcL vs s0 γ τ φ R [] acc s = R (.l acc) (bck vs s0 s) := propext Iff.rfl
theorem lcL_cons {vs : List Nat} {s0 : S} {acc : List D} : lcL vs s0 γ τ φ R (d :: ds) acc ⟨ρ, μ⟩ = γ d ⟨ρ, μ⟩ fun s1 => τ s1 fun b s2 => if b = true then φ s2 fun r s3 => fz r s3 fun y s4 => acc.length < sizeLine ∧ lcL vs s0 γ τ φ R ds (acc ++ [y]) (clr vs s4) else lcL vs s0 γ τ φ R ds acc (clr vs s2) := propext Iff.rfl
end
def dpk0 : Sl → Prop → Prop
  | .k _ _, P => P
  | _, _ => False
def dpk : Sl → Nat → Key → D → S → (S → Prop) → Prop
  | .k ks ds, i, x, d, s, K => ks.length < sizeLine ∧ K (if dhas ks x = true then s.set i (.k ks (drep ks ds x d)) else s.set i (.k (ks ++ [x]) (ds ++ [d])))
  | _, _, _, _, _, _ => False
def kyk : D → (Key → Prop) → Prop
  | .int i, K => K (.inl i)
  | .str x, K => K (.inr x)
  | _, _ => False
section
variable {ρ : List Sl} {μ : Mu} {i : Nat} {φk φ : PhiE} {Δ : DE} {ks : List Key} {ds : List D} {d : D} {RS : S → Prop} {x : Str} {k : Key}
theorem zDP : sDPut i φk φ Δ ⟨ρ, μ⟩ = φ ⟨ρ, μ⟩ fun r s1 => fz r s1 fun d s2 => dpk0 (get s2.ρ i) (φk s2 fun rk s3 => lk rk s3 fun dk => kyk dk fun x => dpk (get s3.ρ i) i x d s3 Δ.nx) := by
  unfold sDPut
  show φ ⟨ρ, μ⟩ _ = φ ⟨ρ, μ⟩ _
  congr 1
  funext r s1
  congr 1
  funext d s2
  cases get s2.ρ i with
  | k ks ds =>
    show φk s2 _ = φk s2 _
    congr 1
    funext rk s3
    congr 1
    funext dk
    cases dk with
    | int j => show (match get s3.ρ i with | _ => _) = _; cases get s3.ρ i <;> rfl
    | str j => show (match get s3.ρ i with | _ => _) = _; cases get s3.ρ i <;> rfl
    | _ => rfl
  | _ => rfl
theorem zdp0 {P : Prop} : dpk0 (.k ks ds) P = P := propext Iff.rfl
theorem zdp : dpk (.k ks ds) i k d ⟨ρ, μ⟩ RS = (ks.length < sizeLine ∧ RS (if dhas ks k = true then ⟨put ρ i (.k ks (drep ks ds k d)), μ⟩ else ⟨put ρ i (.k (ks ++ [k]) (ds ++ [d])), μ⟩)) := propext Iff.rfl
theorem zky_i {j : Int} {K : Key → Prop} : kyk (.int j) K = K (.inl j) := propext Iff.rfl
theorem zky_s {K : Key → Prop} : kyk (.str x) K = K (.inr x) := propext Iff.rfl
end
end DL
/-! DL14: sorted of data. -/
namespace DL
open PySem PySem.Spec PyProof.Rows L2

def leD (a b : D) : Bool := !D.lt b a
/-- what sorted asks of a list -/
structure cSort (ds : List D) : Prop where
  ok : ∀ d ∈ ds, d.ok = true ∧ d.dep ≤ 50 ∧ d ≠ .non
  alike : ∀ d ∈ ds, ∀ e ∈ ds, D.alike d e = true
  kind : (∀ d ∈ ds, ∃ x r, d = .tup (x :: r)) ∨ ∀ d ∈ ds, ∀ xs, d ≠ .tup xs
def rSrt (K : PySem.W.Frag) : List V → Hp → VK → Prop := fun vs H Q => ∃ a, ∃ bs : List (V × D), vs = [.ref a] ∧ SqL K H a (bs.map (·.1)) ∧ (∀ b ∈ bs, Dp K H b.1 b.2.py) ∧ cSort (bs.map (·.2)) ∧
  ∀ p, H p = none → Q (.ref p) (upd H p (.lst ((bs.mergeSort fun x y => leD x.2 y.2).map (·.1))))
theorem each_vals : ∀ {bs : List (V × D)} {us : List Value}, Vals (bs.map (·.1)) us → PySem.W.EachIs (fun u (b : V × D) => RelV b.1 u) us bs
  | [], _, .nil => .nil
  | b :: bs, _, .cons r t => .cons r (each_vals t)
theorem vals_each : ∀ {bs : List (V × D)} {us : List Value}, PySem.W.EachIs (fun u (b : V × D) => RelV b.1 u) us bs → Vals (bs.map (·.1)) us
  | [], _, .nil => .nil
  | b :: bs, _, .cons r t => .cons r (vals_each t)
theorem each_and {α β : Type} {R S : α → β → Prop} : ∀ {us : List α} {bs : List β}, PySem.W.EachIs R us bs → (∀ u b, b ∈ bs → R u b → S u b) → PySem.W.EachIs S us bs
  | [], [], .nil, _ => .nil
  | u :: us, b :: bs, .cons r t, h => .cons (h u b (List.mem_cons_self ..) r) (each_and t fun u b hb hr => h u b (List.mem_cons_of_mem _ hb) hr)
theorem lt_py {x y : D} (hx : x.ok = true) (hy : y.ok = true) (ha : D.alike x y = true) (hn : x ≠ .non) : PySem.W.dataLt x.py y.py = D.lt x y := py_lt x y hx hy ha hn
theorem py_tup {xs : List D} {d : D} (o : d.ok = true) (h : ∀ xs, d ≠ .tup xs) (hn : d ≠ .non) : d.py ≠ .none ∧ ∀ xs, d.py ≠ .tuple xs := by
  refine ⟨py_non o hn, fun ys => ?_⟩
  cases d with
  | tup zs => exact absurd rfl (h zs)
  | non => exact absurd rfl hn
  | bl b => intro z; cases z
  | int b => intro z; cases z
  | str b => intro z; cases z
  | lst b => intro z; cases z
  | _ => cases o
theorem cr_srt {X : Cx} (hu : X.A.units + 64 < cLine) : CallR X (.builtin "sorted") (rSrt X.K) := by
  intro pins s σ H vs us Q I r h
  obtain ⟨a, bs, rfl, hs, hd, c, q⟩ := h
  obtain ⟨its, rv, hl, hz⟩ := I.list hs
  rw [Vals.ref1 r]
  have er := each_vals rv
  have er2 : PySem.W.EachIs (fun v (b : V × D) => ∃ as, Reads s.heap v b.2.py as) its bs := each_and er fun u b hb hr => Dp.reads I b.2.py b.1 u (hd b hb) hr
  have mem : ∀ b ∈ bs, b.2 ∈ bs.map (·.2) := fun b hb => List.mem_map.mpr ⟨b, hb, rfl⟩
  have hal : PySem.W.AllAlike (bs.map fun b => b.2.py) := by
    intro d hd d' hd'
    obtain ⟨b, hb, rfl⟩ := List.mem_map.mp hd
    obtain ⟨b', hb', rfl⟩ := List.mem_map.mp hd'
    exact py_alike _ _ (c.alike _ (mem b hb) _ (mem b' hb'))
  have hk : PySem.W.Sortable (bs.map fun b => b.2.py) := by
    rcases c.kind with k | k
    · refine .inl fun d hd => ?_
      obtain ⟨b, hb, rfl⟩ := List.mem_map.mp hd
      obtain ⟨x, r, e⟩ := k _ (mem b hb)
      exact ⟨x.py, D.pys r, by rw [e]; rfl⟩
    · refine .inr fun d hd => ?_
      obtain ⟨b, hb, rfl⟩ := List.mem_map.mp hd
      obtain ⟨o, _, n⟩ := c.ok _ (mem b hb)
      exact py_tup (xs := []) o (k _ (mem b hb)) n
  have hlen : bs.length ≤ sizeLine := by rw [List.length_map] at hz; exact hz
  have e1 : bs.mergeSort (PySem.W.dataLe false fun b : V × D => b.2.py) = bs.mergeSort fun x y => leD x.2 y.2 := by
    have := List.map_mergeSort (r := PySem.W.dataLe false fun b : V × D => b.2.py) (s := fun x y : V × D => leD x.2 y.2) (f := id) (l := bs) fun x hx y hy => by
      rw [PySem.W.dataLe_eq]
      show (!PySem.W.dataLt y.2.py x.2.py) = (!D.lt y.2 x.2)
      rw [lt_py (c.ok _ (mem y hy)).1 (c.ok _ (mem x hx)).1 (c.alike _ (mem y hy) _ (mem x hx)) (c.ok _ (mem y hy)).2.2]
    rw [List.map_id, List.map_id] at this
    exact this
  refine PySem.W.sorted_data (enc := fun b : V × D => b.2.py) hl.isList er er2 hal hk hlen (fun b hb => ?_) fun out ho eo => ?_
  · have := py_dep b.2
    have := (c.ok _ (mem b hb)).2.1
    omega
  · rw [e1] at eo
    obtain ⟨ep, he'⟩ := PyProof.Rows.sortedAll_at s.heap its out.toArray
    refine ⟨.ref _, upd H (s.heap.objs.size + 1) (.lst ((bs.mergeSort fun x y => leD x.2 y.2).map (·.1))), I.laid (t' := s.toks) (fun _ _ => PyProof.Rows.sortedAll_old) (Nat.le_succ _) ⟨?_, out, ep, vals_each eo, he'⟩, rfl, q _ (I.hok.fresh (Nat.le_succ _))⟩
    rw [List.length_map, (List.mergeSort_perm _ _).length_eq]
    exact hlen
def oSorted : O1 := fun x R => match x with
  | .lst ds => cSort ds ∧ R (.l (ds.mergeSort leD))
  | _ => False
section
variable {K : PySem.W.Frag}
theorem DVs.pairs {G : Hp} : ∀ {ds : List D} {xs : List V}, DVs K G ds xs → ∃ bs : List (V × D), bs.map (·.1) = xs ∧ bs.map (·.2) = ds ∧ ∀ b ∈ bs, DV K G b.2 b.1
  | [], _, h => ⟨[], by cases (show _ = [] from h); rfl, rfl, fun b hb => by cases hb⟩
  | d :: ds, _, ⟨x, r, e, h1, h2⟩ => by
    obtain ⟨bs, e1, e2, e3⟩ := DVs.pairs h2
    refine ⟨(x, d) :: bs, by rw [e, ← e1]; rfl, by rw [← e2]; rfl, fun b hb => ?_⟩
    rcases List.mem_cons.mp hb with rfl | hb
    · exact h1
    · exact e3 b hb
theorem DVs.ofPairs {G : Hp} : ∀ {bs : List (V × D)}, (∀ b ∈ bs, DV K G b.2 b.1) → DVs K G (bs.map (·.2)) (bs.map (·.1))
  | [], _ => rfl
  | b :: bs, h => ⟨_, _, rfl, h b (List.mem_cons_self ..), DVs.ofPairs fun c hc => h c (List.mem_cons_of_mem _ hc)⟩
theorem cs_srt : Call1S K (rSrt K) oSorted := fun G U H μ x d R Q b l h k => by
  cases d with
  | lst ds =>
    obtain ⟨a, xs, rfl, h1, h2⟩ := l.lst b
    obtain ⟨bs, rfl, rfl, e3⟩ := h2.pairs
    obtain ⟨c, h⟩ := h
    refine ⟨a, bs, rfl, h1, fun p hp => dp_same b.sub (dv_dp (c.ok _ (List.mem_map.mpr ⟨p, hp, rfl⟩)).1 (e3 p hp)), c, fun p hp => ?_⟩
    have e : (bs.map (·.2)).mergeSort leD = (bs.mergeSort fun x y => leD x.2 y.2).map (·.2) := (List.map_mergeSort (r := fun x y : V × D => leD x.2 y.2) (s := leD) (f := fun x : V × D => x.2) (l := bs) fun _ _ _ _ => rfl).symm
    rw [e] at h
    exact k.lst b (DVs.ofPairs fun p hp => e3 p ((List.mergeSort_perm _ _).mem_iff.mp hp)) h hp
  | _ => exact h.elim
end
section
variable {R : Sl → Prop} {xs : List D} {b c : Bool} {x y : Str}
theorem xSorted : oSorted (.lst xs) R = (cSort xs ∧ R (.l (xs.mergeSort leD))) := propext Iff.rfl
theorem xNe_bb : oNe (.bl b) (.bl c) R = R (.d (.bl (!(b == c)))) := by show (True ∧ _) = _; rw [true_and]; rfl
theorem xAll {bs : List Bool} (h : asBls xs = some bs) : oAll (.lst xs) R = R (.d (.bl (bs.all id))) := by
  show (match asBls xs with
    | some bs => R (.d (.bl (bs.all id)))
    | none => False) = _
  rw [h]
end
end DL
/-! DL15: a set of texts, made of a list of them, and sorted. -/
namespace DL
open PySem PySem.Spec PyProof.Rows L2

def kS (e : Int × Value) : Str := match e.2 with
  | .str x _ => x
  | _ => Str.empty
def GdS (w : World) (e : Int × Value) : Prop := ∃ (x : Str) (tk : Tok), e.2 = Value.str x tk ∧ e.1 = hashStr w x
/-- the set of the texts xs, at a -/
structure TxtAt (w : World) (h : Heap) (a : Addr) (xs : List Str) (o : Obj) (es : Array (Int × Value)) (ep : Nat) (t : SetTable) : Prop where
  at_ : h.get? a = some o
  ex : o.ExactSet
  dat : o.data = .set es ep t
  gd : ∀ e ∈ es.toList, GdS w e
  nd : (es.toList.map kS).Nodup
  mem : ∀ x, x ∈ es.toList.map kS ↔ x ∈ xs
  few : es.size ≤ xs.length
  fit : t.fits es.size = true
  ris : L2.Ris t.place.toList
  led : w.params.followText "set-order" = true ∨ t.led = true
def TxtSet (w : World) (h : Heap) (a : Addr) (xs : List Str) : Prop := ∃ o es ep t, TxtAt w h a xs o es ep t
section
variable {P : Program} {w : World} {A : Around} {E : Value → Shared → Prop} {s : Shared} {a : Addr} {xs : List Str} {o : Obj} {es : Array (Int × Value)} {ep : Nat} {t : SetTable}
theorem TxtSet.keep {h h' : Heap} (T : TxtSet w h a xs) (k : ∀ o, h.get? a = some o → h'.get? a = some o) : TxtSet w h' a xs := by
  obtain ⟨o, es, ep, t, q⟩ := T
  exact ⟨o, es, ep, t, { q with at_ := k o q.at_ }⟩
theorem gds_is {e : Int × Value} (g : GdS w e) (x : Str) : (PySem.strKind P w).is x e.2 = true ↔ kS e = x := by
  obtain ⟨y, tk, q, _⟩ := g
  unfold kS
  rw [q]
  show Value.isStrOf x (Value.str y tk) = true ↔ y = x
  constructor
  · intro z
    obtain ⟨u, hu⟩ := Value.isStrOf_shape z
    injection hu
  · rintro rfl
    exact strKind_is P w y tk
theorem gds_elems {l : List (Int × Value)} (g : ∀ e ∈ l, GdS w e) : ElemsOf (PySem.strKind P w) l := fun e he => by
  obtain ⟨y, tk, q1, q2⟩ := g e he
  exact ⟨⟨y, by rw [q1]; exact strKind_is P w y tk, q2⟩, by rw [q1]; rfl⟩
theorem gds_mem {l : List (Int × Value)} (g : ∀ e ∈ l, GdS w e) (x : Str) : x ∈ l.map kS ↔ ∃ e ∈ l, (PySem.strKind P w).is x e.2 = true := by
  rw [List.mem_map]
  exact ⟨fun ⟨e, he, q⟩ => ⟨e, he, (gds_is (g e he) x).2 q⟩, fun ⟨e, he, q⟩ => ⟨e, he, (gds_is (g e he) x).1 q⟩⟩
/-- the entries are laid anew, or not -/
theorem txt_tail {g : Bool → Sem Unit} (hg : ∀ (b : Bool) (s1 : Shared) (Z : Unit → Shared → Prop), Z () s1 → wpAny (model P w) A (g b) Z E s1) {ys : List Str} (q : TxtAt w s.heap a xs o es ep t)
    {fs : Array (Int × Value)} {u : SetTable} (h1 : ∀ e ∈ fs.toList, GdS w e) (h2 : (fs.toList.map kS).Nodup) (h3 : ∀ x, x ∈ fs.toList.map kS ↔ x ∈ ys) (h4 : fs.size ≤ ys.length) (hy : ys.length < scanBound)
    (h5 : u.fits fs.size = true) (h6 : L2.Ris u.place.toList) (h7 : w.params.followText "set-order" = true ∨ u.led = true) {was : Bool} {Z : Option Bool → Shared → Prop}
    (fin : ∀ h', Heap.SameBut a s.heap h' → TxtSet w h' a ys → Z (some true) { s with heap := h' }) :
    wpAny (model P w) A (do
        storeSet a fs u
        if (!was && u.tooFull) = true then do
            g (relayAll u fs (SetTable.grown fs.size)).2.2
            storeSet a (relayAll u fs (SetTable.grown fs.size)).1 (relayAll u fs (SetTable.grown fs.size)).2.1
            pure (some true)
          else pure (some true)) Z E s := by
  have hb : fs.size < scanBound := Nat.lt_of_le_of_lt h4 hy
  refine wpAny_bind (wpAny_storeSet_of q.at_ q.dat ?_ (fits_of_scanBound hb))
  have a1 := L2.store_at (es' := fs) (t' := u) q.at_ q.dat
  have k1 := Heap.SameBut.update s.heap a (Obj.putSet fs u)
  split
  · have r1 := relayAll_perm u fs (SetTable.grown fs.size)
    have r2 := relayAll_fits u fs (SetTable.grown fs.size)
    have r3 := L2.relayAll_ris u fs (SetTable.grown fs.size)
    have r4 := L2.relayAll_led u fs (SetTable.grown fs.size)
    generalize relayAll u fs (SetTable.grown fs.size) = Y at r1 r2 r3 r4 ⊢
    obtain ⟨gs, v, gv⟩ := Y
    dsimp only at r1 r2 r3 r4 ⊢
    have hz : gs.size = fs.size := by rw [← Array.length_toList, r1.length_eq, Array.length_toList]
    refine wpAny_bind (hg _ _ _ ?_)
    refine wpAny_bind (wpAny_storeSet_of a1 rfl ?_ (fits_of_scanBound (by rw [hz]; exact hb)))
    have a2 := L2.store_at (es' := gs) (t' := v) a1 rfl
    refine wpAny_pure (fin _ (k1.trans (Heap.SameBut.update _ a _)) ⟨_, gs, _, v, a2, q.ex, rfl, ?_, ?_, ?_, by rw [hz]; exact h4, r2, r3, h7.imp id fun z => by rw [r4]; exact z⟩)
    · exact fun e he => h1 e (r1.mem_iff.mp he)
    · exact (r1.map kS).nodup_iff.mpr h2
    · exact fun x => (r1.map kS).mem_iff.trans (h3 x)
  · exact wpAny_pure (fin _ k1 ⟨_, fs, _, u, a1, q.ex, rfl, h1, h2, h3, h4, h5, h6, h7⟩)
theorem txt_add {x : Str} {tk : Tok} {Q : Bool → Shared → Prop} (T : TxtSet w s.heap a xs) (room : xs.length + 1 < scanBound)
    (hQ : ∀ b h', Heap.SameBut a s.heap h' → TxtSet w h' a (xs ++ [x]) → Q b { s with heap := h' }) : wpAny (model P w) A (setAddHashed a (.str x tk) ((PySem.strKind P w).hash x)) Q E s := by
  obtain ⟨o, es, ep, t, q⟩ := T
  have key : (PySem.strKind P w).is x (.str x tk) = true := strKind_is P w x tk
  have sc : (Value.str x tk).scannable = true := rfl
  have el := gds_elems (P := P) q.gd
  have hes : es.size < scanBound := Nat.lt_of_le_of_lt q.few (by omega)
  have len1 : (xs ++ [x]).length = xs.length + 1 := by simp
  unfold setAddHashed setAddHashedIn
  refine wpAny_holding (wpAny_bind (wpAny_setState_of q.at_ q.dat q.fit ?_))
  dsimp only
  rw [byScan_of sc hes el]
  simp only [↓reduceIte]
  unfold setAddByScan
  refine wpAny_bind (wpAny_bind (wpAny_rule ?_))
  refine wpAny_bind (wpAny_setScan_of key q.at_ q.dat q.fit el ?_)
  cases hf : List.findIdx? (fun e => (PySem.strKind P w).is x e.2) es.toList with
  | some j =>
    dsimp only
    obtain ⟨hj, pj, _⟩ := List.findIdx?_eq_some_iff_getElem.mp hf
    have hx : x ∈ xs := (q.mem x).1 ((gds_mem (P := P) q.gd x).2 ⟨es.toList[j], List.getElem_mem hj, pj⟩)
    refine wpAny_pure (wpAny_pure (hQ _ s.heap (Heap.SameBut.refl a s.heap) ⟨o, es, ep, t, { q with mem := fun y => (q.mem y).trans ?_, few := by rw [len1]; have := q.few; omega }⟩))
    rw [List.mem_append, List.mem_singleton]
    exact ⟨.inl, fun z => z.elim id fun e => by rw [e]; exact hx⟩
  | none =>
    dsimp only
    have hx : x ∉ es.toList.map kS := fun z => by
      obtain ⟨e, he, q1⟩ := (gds_mem (P := P) q.gd x).1 z
      have := List.findIdx?_eq_none_iff.mp hf e he
      rw [q1] at this
      cases this
    have gw : ∀ (b : Bool) {s1 : Shared} {Z : Unit → Shared → Prop}, Z () s1 → wpAny (model P w) A (match b with | true => rule "set.scan.the-table-gave-way" | false => pure ()) Z E s1 := fun b s1 Z z => by
      cases b
      · exact wpAny_pure z
      · exact wpAny_rule z
    have m1 := layNew_perm t es ((PySem.strKind P w).hash x) (.str x tk)
    have m2 := layNew_fits t es ((PySem.strKind P w).hash x) (.str x tk)
    have m3 := L2.layNew_ris t es ((PySem.strKind P w).hash x) (.str x tk) q.ris
    have m4 := L2.layNew_led t es ((PySem.strKind P w).hash x) (.str x tk)
    generalize layNew t es ((PySem.strKind P w).hash x) (.str x tk) = Y at m1 m2 m3 m4 ⊢
    obtain ⟨fs, u, was, gv⟩ := Y
    dsimp only at m1 m2 m3 m4 ⊢
    rw [Array.toList_push] at m1
    have pc : fs.toList.Perm (((PySem.strKind P w).hash x, Value.str x tk) :: es.toList) := m1.trans (List.perm_append_singleton _ _)
    have pk : (fs.toList.map kS).Perm (x :: es.toList.map kS) := pc.map kS
    have n1 : ∀ e ∈ fs.toList, GdS w e := fun e he => by
      rcases List.mem_cons.mp (pc.mem_iff.mp he) with z | z
      · exact z ▸ ⟨x, tk, rfl, rfl⟩
      · exact q.gd e z
    have n2 : (fs.toList.map kS).Nodup := pk.nodup_iff.mpr (List.nodup_cons.mpr ⟨hx, q.nd⟩)
    have n3 : ∀ y, y ∈ fs.toList.map kS ↔ y ∈ xs ++ [x] := fun y => by
      rw [pk.mem_iff, List.mem_cons, q.mem y, List.mem_append, List.mem_singleton]
      exact Or.comm
    have n4 : fs.size ≤ (xs ++ [x]).length := by
      have e : fs.size = es.size + 1 := by rw [← Array.length_toList, pc.length_eq, List.length_cons, Array.length_toList]
      rw [e, len1]
      exact Nat.succ_le_succ q.few
    have n5 : (xs ++ [x]).length < scanBound := by rw [len1]; exact room
    have n6 : w.params.followText "set-order" = true ∨ u.led = true := q.led.imp id fun z => by rw [m4]; exact z
    refine wpAny_bind (gw _ ?_)
    split
    · refine wpAny_bind ?_
      rw [hashByValue_scannable 8 sc]
      refine wpAny_pure (txt_tail ?_ q n1 n2 n3 n4 n5 ?_ ?_ ?_ ?_)
      · intro b s1 Z z
        cases b
        · exact wpAny_pure z
        · exact wpAny_rule z
      · split
        · exact m2
        · exact SetTable.fits_plain_off m2
      · split
        · exact m3
        · exact m3
      · split
        · exact n6
        · exact n6
      · intro h' sb r
        dsimp only
        exact wpAny_pure (hQ _ h' sb r)
    · refine wpAny_bind (wpAny_pure ?_)
      simp only [↓reduceIte]
      refine txt_tail ?_ q n1 n2 n3 n4 n5 m2 m3 n6 ?_
      · intro b s1 Z z
        cases b
        · exact wpAny_pure z
        · exact wpAny_rule z
      · intro h' sb r
        dsimp only
        exact wpAny_pure (hQ _ h' sb r)
end
end DL
namespace DL
open PySem PySem.Spec PyProof.Rows L2
section
variable {P : Program} {w : World} {A : Around} {R : Result → Shared → Prop} {I : Addr} {fp wr : List Addr} {G : Array GenState → Array GenState → Prop} {n : Nat} {Pv : Nat → Value → Prop} {St : Nat → Shared → Prop}
/-- the members come one by one -/
theorem txt_loop (W : WalksS P w A.in1 I fp wr G n Pv St) (a : Addr) (ha : a ∉ fp) (xs : List Str) (hn : xs.length = n) (hb : n + 1 < scanBound) (hv : ∀ i v, Pv i v → ∃ t, v = .str (xs.getD i Str.empty) t) :
    ∀ (k i : Nat) (s : Shared), n - i = k → i ≤ n → St i s → TxtSet w s.heap a (xs.take i) → (∀ s', Moved (a :: wr) G s s' → TxtSet w s'.heap a xs → R (.ok (.ret .none)) s') →
      codeAny (model P w) A (.builtin "set.update.loop" ⟨[.ref a, .ref I], []⟩) R s := by
  have aw : a ∉ wr := fun h => ha (W.sub _ h)
  have sub : ∀ b ∈ wr, b ∈ a :: wr := fun b z => List.mem_cons_of_mem _ z
  intro k
  induction k with
  | zero =>
    intro i s hk hi st T fin
    have e : i = xs.length := by omega
    refine codeAny_builtin PyProof.Rows.F.entry_set_update_loop ?_
    rw [Around.under_plainId PyProof.Rows.F.plain_set_update_loop _]
    show wpAny _ A.in1 (pyNext (.ref I) >>= _) _ _ s
    have e2 : i = n := by omega
    subst e2
    refine wpAny_bind (W.done s _ _ st fun s' mv => ?_)
    show wpAny _ A.in1 (ret Value.none) _ _ s'
    rw [e, List.take_length] at T
    exact wpAny_pure (fin s' (mv.mono sub) (T.keep fun o q => mv.heap a o aw q))
  | succ k ih =>
    intro i s hk hi st T fin
    have lt : i < n := by omega
    refine codeAny_builtin PyProof.Rows.F.entry_set_update_loop ?_
    rw [Around.under_plainId PyProof.Rows.F.plain_set_update_loop _]
    show wpAny _ A.in1 (pyNext (.ref I) >>= _) _ _ s
    refine wpAny_bind (W.item i s _ _ lt st fun v s' hP st' mv => ?_)
    obtain ⟨tk, rfl⟩ := hv i v hP
    have T' : TxtSet w s'.heap a (xs.take i) := T.keep fun o q => mv.heap a o aw q
    show wpAny _ A.in1 (holding [Value.str (xs.getD i Str.empty) tk] (setAdd a (.str (xs.getD i Str.empty) tk)) >>= _) _ _ s'
    refine wpAny_bind (wpAny_holding ?_)
    unfold setAdd
    refine wpAny_holding (wpAny_bind ((PySem.strKind P w).pyHash (k := xs.getD i Str.empty) (strKind_is _ _ _ _) ?_))
    refine txt_add (s := { s' with toks := s'.toks + 1 }) T' (by rw [List.length_take]; omega) fun _ h' sb T2 => ?_
    have e3 : xs.take i ++ [xs.getD i Str.empty] = xs.take (i + 1) := by
      rw [List.take_succ, List.getD_eq_getElem?_getD]
      have : i < xs.length := by omega
      rw [List.getElem?_eq_getElem this]
      rfl
    rw [e3] at T2
    refine wpAny_pure ⟨plainId_quiet PyProof.Rows.F.plain_set_update_loop _, ih (i + 1) _ (by omega) lt (W.frame _ s' _ _ st' (Nat.le_succ _) fun b hb o q => ?_) T2 fun s2 mv2 T3 => ?_⟩
    · exact (sb.2 b fun z => ha (z ▸ hb)).trans q
    · refine fin s2 (Moved.trans W.gtrans ((mv.mono sub).then_heap (Nat.le_succ _) fun b o hb q => ?_) mv2) T3
      exact (sb.2 b fun z => hb (z ▸ List.mem_cons_self)).trans q
end
end DL
namespace DL
open PySem PySem.Spec PyProof.Rows L2
section
variable {P : Program} {w : World} {A : Around} {E : Value → Shared → Prop} {s : Shared}
theorem txt_new1 (arg : Value) {Z : Value → Shared → Prop}
    (h : Z (.ref s.heap.objs.size) { s with heap := s.heap.push { cls := .type "set", dict := none, data := .set #[] 0 (.fresh 0 0 (!w.params.followText "set-order")) } }) : codeAny (model P w) A (.call (.builtin "set.__new__") ⟨[.type "set", arg], []⟩) (wants Z E) s := by
  refine codeAny_of_tree ?_
  show wpAny _ A.in1 (do checkBuiltinCall "set.__new__" ⟨[.type "set", arg], []⟩; again (.builtin "set.__new__" ⟨[.type "set", arg], []⟩)) _ _ s
  refine wpAny_bind (wpAny_of_eq (PySem.F.newCall_set_1 arg) (wpAny_pure ⟨plainId_quiet PySem.F.plain_set_new _, codeAny_builtin PySem.F.entry_set_new ?_⟩))
  rw [Around.under_plainId PySem.F.plain_set_new _]
  unfold Builtin.«set.__new__» Builtin.Frozenset.newClass
  have hsub := sub_set_self
  obtain ⟨hp, g, d, tk, os⟩ := s
  dsimp only
  wp_walk
  refine wpAny_askSetting (wpAny_pure ?_)
  dsimp only
  simp only [newObj]
  exact wpAny_bind (wpAny_alloc (wpAny_pure (wpAny_pure h)))
theorem txt_fresh {h : Heap} (w : World) : TxtSet w (h.push { cls := .type "set", dict := none, data := .set #[] 0 (.fresh 0 0 (!w.params.followText "set-order")) }) h.objs.size [] := by
  refine ⟨_, #[], 0, _, Heap.get?_push_size _ rfl, ⟨rfl, rfl, rfl⟩, rfl, (fun e he => by simp at he), by simp, (fun k => by simp), Nat.zero_le _, by rfl, List.Pairwise.nil, ?_⟩
  show _ ∨ (!w.params.followText "set-order") = true
  cases w.params.followText "set-order"
  · exact .inr rfl
  · exact .inl rfl
/-- what a set call leaves: the set of the texts at the next place -/
def TxtMade (w : World) (s : Shared) (xs : List Str) (s' : Shared) : Prop := ∃ h' tk, s' = { s with heap := h', toks := tk } ∧ TxtSet w h' s.heap.objs.size xs ∧ ∀ b o, b < s.heap.objs.size → s.heap.get? b = some o → h'.get? b = some o
set_option maxHeartbeats 3200000 in
theorem txt_call_list {l : Addr} {items : Array Value} {xs : List Str} {Q : Value → Shared → Prop} (hh : A.handled = none) (hl : s.heap.IsList l items) (hi : StrsAre items.toList xs) (hb : xs.length + 1 < scanBound)
    (h : ∀ s', TxtMade w s xs s' → Q (.ref s.heap.objs.size) s') : wpAny (model P w) A (call (.type "set") [.ref l]) Q E s := by
  obtain ⟨c, tl, hmro⟩ := PySem.F.called_set.mro
  have hmade := PySem.F.called_set.made
  have hsub := PySem.F.called_set.sub
  refine wpAny_call (codeAny_of_tree ?_)
  show wpAny _ _ (callAny (.type "set") _) _ _ _
  refine wpAny_pure ⟨Code.quiet_builtin _ (by decide +kernel), codeAny_builtin PySem.F.entry_type_call ?_⟩
  rw [Around.under_plain (weight_type_call_type "set" [.ref l] []) rfl]
  have h1 := PySem.F.called_set.notType
  have h2 := PySem.F.called_set.canCreate
  have hct := PySem.F.typeCall_set_1 (.ref l)
  repeat (any_goals (first | assumption | wp_step))
  refine codeAny_mono (txt_new1 (.ref l) (E := E) (Z := fun obj s1 => obj = .ref s.heap.objs.size ∧ s1 = { s with heap := s.heap.push ({ cls := .type "set", dict := none, data := .set #[] 0 (.fresh 0 0 (!w.params.followText "set-order")) } : Obj) }) ⟨rfl, rfl⟩) fun r s1 hr => ?_
  cases r with
  | error e => exact hr
  | ok fl =>
    cases fl with
    | ret obj =>
      obtain ⟨rfl, rfl⟩ := hr
      have hS : (s.heap.push ({ cls := .type "set", dict := none, data := .set #[] 0 (.fresh 0 0 (!w.params.followText "set-order")) } : Obj)).get? s.heap.objs.size = some ({ cls := .type "set", dict := none, data := .set #[] 0 (.fresh 0 0 (!w.params.followText "set-order")) } : Obj) := Heap.get?_push_size _ rfl
      have hT : Shared.TypeIs { s with heap := s.heap.push ({ cls := .type "set", dict := none, data := .set #[] 0 (.fresh 0 0 (!w.params.followText "set-order")) } : Obj) } (.ref s.heap.objs.size) "set" := ⟨_, hS, rfl⟩
      have hli := PySem.F.called_set.init.lookup
      have hbi := PySem.F.called_set.init.bind (.ref s.heap.objs.size)
      repeat (any_goals (first | assumption | wp_step))
      refine codeAny_mono (codeAny_call_builtin (R := wants (fun r s2 => r = .none ∧ TxtMade w s xs s2) E) PySem.F.called_set.init.plain PySem.F.entry_set_init (check_set_init_1 hT ?_)) fun r2 s2 hr2 => ?_
      · obtain ⟨ol, hol, hcl, nl, hdl⟩ := hl
        obtain ⟨ocls, odict, odata, oslots⟩ := ol
        simp only at hcl hdl
        subst hcl; subst hdl
        have hol' : (s.heap.push ({ cls := .type "set", dict := none, data := .set #[] 0 (.fresh 0 0 (!w.params.followText "set-order")) } : Obj)).get? l = some { cls := .type "list", dict := odict, data := .seq items nl, slots := oslots } := Heap.get?_push_of_some _ hol
        have hsls := PySem.F.sub_list_set
        have hslf := PySem.F.sub_list_frozenset
        have hne : (Value.type "list" == Value.type "dict") = false := by decide
        have hl1 : (s.heap.push ({ cls := .type "set", dict := none, data := .set #[] 0 (.fresh 0 0 (!w.params.followText "set-order")) } : Obj)).IsList l items := ⟨_, hol', rfl, nl, rfl⟩
        unfold Builtin.«set.__init__» noKeywords Builtin.Frozenset.updateFrom
        generalize hPI : pyIter = PI
        wp_walk
        subst hPI
        refine wpAny_pyIter_list hl1 ?_
        refine wpAny_bind (wpAny_runValue ?_)
        have lS : l < s.heap.objs.size := Heap.lt_size hol
        have hh3 : A.in1.in1.in1.handled = none := by simp [hh]
        have neI : l ≠ (s.heap.push ({ cls := .type "set", dict := none, data := .set #[] 0 (.fresh 0 0 (!w.params.followText "set-order")) } : Obj)).objs.size := by
          rw [Heap.size_push]
          exact Nat.ne_of_lt (Nat.lt_succ_of_lt lS)
        have out : s.heap.objs.size ∉ [(s.heap.push ({ cls := .type "set", dict := none, data := .set #[] 0 (.fresh 0 0 (!w.params.followText "set-order")) } : Obj)).objs.size, l] := by
          rw [Heap.size_push]
          simp only [List.mem_cons, List.not_mem_nil, or_false, not_or]
          exact ⟨Nat.ne_of_lt (Nat.lt_succ_self _), Nat.ne_of_gt lS⟩
        have sz : xs.length = items.size := by rw [← StrsAre.len_eq hi, Array.length_toList]
        refine txt_loop ((Walks.list hh3 _ l neI items).toS) s.heap.objs.size out xs sz (by rw [← sz]; exact hb) (fun i v hv => SS.strs_at hi i v (by rw [Array.getElem?_toList]; exact hv)) (items.size - 0) 0 _ (by omega) (Nat.zero_le _)
          ⟨⟨_, Heap.get?_push_size _ rfl, rfl, rfl⟩, (hl1.push _)⟩ ?_ fun s' mv T => ?_
        · rw [List.take_zero]
          exact (txt_fresh w).keep fun o q => Heap.get?_push_of_some _ q
        · obtain ⟨h', g', d', tk', os'⟩ := s'
          have eg : g' = s.gens := mv.gens
          have ed : d' = s.drawn := mv.drawn
          have eo : os' = s.os := mv.os
          subst eg; subst ed; subst eo
          show wpAny _ _ _ _ _ _
          refine wpAny_pure ?_
          show wpAny _ _ (ret Value.none) _ _ _
          refine wpAny_pure ⟨rfl, h', tk', rfl, T, fun b o b1 e => mv.heap b o ?_ (Heap.get?_push_of_some _ (Heap.get?_push_of_some _ e))⟩
          rw [Heap.size_push]
          simp only [List.mem_cons, List.not_mem_nil, or_false, not_or]
          exact ⟨Nat.ne_of_lt b1, Nat.ne_of_lt (Nat.lt_succ_of_lt b1)⟩
      · cases r2 with
        | error e => exact hr2
        | ok fl2 =>
          cases fl2 with
          | ret r =>
            obtain ⟨rfl, h', tk, rfl, k1, k2⟩ := hr2
            repeat (any_goals (first | assumption | wp_step))
            exact h _ ⟨h', _, rfl, k1, k2⟩
          | _ => exact hr2.elim
    | _ => exact hr.elim
end
end DL
/-! DL16: sorted of a set of texts. -/
namespace DL
open PySem PySem.Spec PyProof.Rows L2
def sv (v : Value) : Str := match v with
  | .str x _ => x
  | _ => Str.empty
def slt (x y : Str) : Bool := decide (x.cps.toList < y.cps.toList)
theorem strs_each : ∀ {vs : List Value}, (∀ v ∈ vs, ∃ x t, v = Value.str x t) → PySem.W.EachIs (fun v (x : Str) => ∃ t, v = Value.str x t) vs (vs.map sv)
  | [], _ => .nil
  | v :: vs, h => by
    obtain ⟨x, t, e⟩ := h v (List.mem_cons_self ..)
    refine .cons ⟨t, ?_⟩ (strs_each fun u hu => h u (List.mem_cons_of_mem _ hu))
    rw [e]
    rfl
theorem each_of {h : Heap} {a : Addr} : ∀ {vs : List Value} {xs : List Str}, PySem.W.EachIs (fun v (x : Str) => ∃ t, v = Value.str x t) vs xs → PySem.W.EachIs (fun v (x : Str) => ∃ as, Reads h v (PyData.str x) as ∧ a ∉ as) vs xs
  | [], [], .nil => .nil
  | v :: vs, x :: xs, .cons ⟨t, e⟩ r => by subst e; exact .cons ⟨[], .str x t, by simp⟩ (each_of r)
theorem each_strs : ∀ {vs : List Value} {xs : List Str}, PySem.W.EachIs (fun v (x : Str) => ∃ t, v = Value.str x t) vs xs → StrsAre vs xs
  | [], [], .nil => .nil
  | v :: vs, x :: xs, .cons ⟨t, e⟩ r => by subst e; exact .cons x t (each_strs r)
section
variable {P : Program} {w : World} {A : Around} {E : Value → Shared → Prop} {s : Shared} {a : Addr} {xs : List Str}
theorem txt_sorted {Q : Value → Shared → Prop} (T : TxtSet w s.heap a xs) (hh : A.handled = none) (hb : xs.length < scanBound) (hu : A.units + 64 < cLine)
    (h : ∀ s' p (out : List Value) (zs : List Str) (c : Nat), (∀ b o, s.heap.get? b = some o → s'.heap.get? b = some o) → s'.gens = s.gens → s'.os = s.os → s.heap.objs.size ≤ p → s'.heap.get? p = some (seqObj "list" out.toArray c) →
      StrsAre out zs → (∃ ys : List Str, ys.Nodup ∧ (∀ x, x ∈ ys ↔ x ∈ xs) ∧ ys.length ≤ xs.length ∧ zs = ys.mergeSort (fun x y => !slt y x)) → Q (.ref p) s') : wpAny (model P w) A (call (.builtin "sorted") [.ref a]) Q E s := by
  obtain ⟨o, es, ep, t, q⟩ := T
  have hes : es.size < scanBound := Nat.lt_of_le_of_lt q.few hb
  refine Calls.call_function_entry kind_sorted plain_sorted entry_sorted (args_sorted1 _) ?_
  unfold Builtin.«sorted»
  refine wpAny_bind (m := checkCount "sorted" 1 1 _) (wpAny_pure ?_)
  refine wpAny_bind (L2.collect_set (A := A.in1) hh ⟨o, q.at_, q.ex.1, q.dat⟩ q.fit hes q.ris q.led fun s1 vs k1 hz g1 o1 pm => ?_)
  have isv : ∀ v ∈ vs, ∃ x t, v = Value.str x t := fun v hv => by
    obtain ⟨e, he, z⟩ := List.mem_map.mp (pm.mem_iff.mp hv)
    obtain ⟨x, tk, h1, _⟩ := q.gd e he
    exact ⟨x, tk, by rw [← z]; exact h1⟩
  have pk : (vs.map sv).Perm (es.toList.map kS) := by
    have z := pm.map sv
    rw [List.map_map] at z
    exact z
  have hlen : vs.length ≤ sizeLine := by
    rw [pm.length_eq, List.length_map, Array.length_toList]
    exact fits_of_scanBound hes
  refine wpAny_bind (wpAny_newList ?_ hlen)
  have hoL : (s1.heap.push (seqObj "list" vs.toArray 0)).get? s1.heap.objs.size = some (seqObj "list" vs.toArray 0) := Heap.get?_push_size _ rfl
  refine wpAny_bind (wpAny_holding ?_)
  have ev := strs_each isv
  refine PySem.W.list_sort_data (enc := fun x : Str => PyData.str x) (bs := vs.map sv) hoL ev (each_of ev) ?_ ?_ (by rw [List.length_map]; exact hlen) (fun b hb => ?_) fun out ho eo => ?_
  · intro d hd d' hd'
    obtain ⟨x, _, rfl⟩ := List.mem_map.mp hd
    obtain ⟨y, _, rfl⟩ := List.mem_map.mp hd'
    rfl
  · refine .inr fun d hd => ?_
    obtain ⟨x, _, rfl⟩ := List.mem_map.mp hd
    exact ⟨(fun z => by cases z), (fun _ z => by cases z)⟩
  · show A.units + 1 + 1 + 0 < cLine
    omega
  · have e1 : ((vs.map sv).mergeSort (PySem.W.dataLe false fun x : Str => PyData.str x)) = (vs.map sv).mergeSort fun x y => !slt y x := by
      congr 1
      rw [PySem.W.dataLe_str]
      funext x y
      have := PySem.W.not_lt_str y.cps.toList x.cps.toList
      show decide (x.cps.toList ≤ y.cps.toList) = !decide (y.cps.toList < x.cps.toList)
      rw [← PySem.W.not_lt_str]
    rw [e1] at eo
    have hout : (List.toArray out).toList = out := rfl
    obtain ⟨c, hc⟩ := sortedHeap_at (vs := vs) (out := List.toArray out) hoL
    refine wpAny_pure ⟨_, rfl, h _ s1.heap.objs.size out _ c (fun b u e => ?_) g1 o1 hz hc (each_strs eo) ⟨vs.map sv, pk.nodup_iff.mpr q.nd, fun x => (pk.mem_iff).trans (q.mem x), by rw [pk.length_eq, List.length_map, Array.length_toList]; exact q.few, rfl⟩⟩
    have k2 := k1 b u e
    have lt := Heap.lt_size k2
    show (sortedHeap (s1.heap.push (seqObj "list" vs.toArray 0)) s1.heap.objs.size vs (List.toArray out)).get? b = some u
    rw [sortedHeap_old (Nat.ne_of_lt lt) (by rw [size_push']; exact Nat.lt_succ_of_lt lt)]
    exact Heap.get?_push_of_some _ k2
end
/-! ### sorted(set(e)) -/
def asStrs : List D → Option (List Str)
  | [] => some []
  | .str i :: r => (asStrs r).map (i :: ·)
  | _ => none
theorem asStrs_ok : ∀ {ds : List D} {ns : List Str}, asStrs ds = some ns → ds = ns.map D.str
  | [], ns, h => by cases h; rfl
  | d :: r, ns, h => by
    cases d with
    | str i =>
      have h : (asStrs r).map (i :: ·) = some ns := h
      cases e : asStrs r with
      | none => rw [e] at h; cases h
      | some ms => rw [e] at h; cases h; rw [asStrs_ok e]; rfl
    | _ => cases h
theorem asStrs_map : ∀ ns : List Str, asStrs (ns.map D.str) = some ns
  | [] => rfl
  | n :: ns => by show (asStrs (ns.map D.str)).map (n :: ·) = _; rw [asStrs_map ns]; rfl
/-- the texts in their order, each once -/
def oSortSet : O1 := fun x R => match x with
  | .lst ds => match asStrs ds with
    | some xs => xs.length < 1000 ∧ ∀ ys : List Str, ys.Nodup → (∀ x, x ∈ ys ↔ x ∈ xs) → R (.l ((ys.mergeSort fun x y => !slt y x).map D.str))
    | none => False
  | _ => False
section
variable {X : Cx} {e : Expr} {φ : PhiE} {p1 p2 q1 q2 : Pos}
def rSortSet (K : PySem.W.Frag) : V → Hp → VK → Prop := fun x H Q => ∃ (l : Addr) (xs : List Str), x = .ref l ∧ SqL K H l (xs.map V.str) ∧ xs.length < 1000 ∧
  ∀ ys : List Str, ys.Nodup → (∀ x, x ∈ ys ↔ x ∈ xs) → ∀ p, H p = none → Q (.ref p) (upd H p (.lst ((ys.mergeSort fun x y => !slt y x).map V.str)))
theorem us_sortSet {K : PySem.W.Frag} : UnS K (rSortSet K) oSortSet := fun G U H μ x d R Q b l h k => by
  cases d with
  | lst ds =>
    obtain ⟨a, xs, rfl, h1, h2⟩ := l.lst b
    unfold oSortSet at h
    simp only at h
    cases e : asStrs ds with
    | none => rw [e] at h; exact h.elim
    | some ns =>
      rw [e] at h
      rw [asStrs_ok e] at h2
      rw [h2.strs] at h1
      exact ⟨a, ns, rfl, h1, h.1, fun ys n1 n2 p hp => k.lst b DVs.ofStrs (h.2 ys n1 n2) hp⟩
  | _ => exact h.elim
theorem vals_strs : ∀ {vs : List Value} {xs : List Str}, StrsAre vs xs → Vals (xs.map V.str) vs
  | [], [], .nil => .nil
  | _ :: _, _ :: _, .cons x t r => .cons ⟨t, rfl⟩ (vals_strs r)
theorem pe_sortSet {te : TE} (hu : X.A.units + 64 < cLine) (hc : X.calm = true) (hg : Gl X "sorted") (hm : X.mg "sorted" = none) (hg2 : Gl X "set") (hm2 : X.mg "set" = none) (ha : PE X e te)
    (na : starEach [e] X.env = (false, eval e X.env) :: starEach [] X.env := by rfl) : PE X (.Call (.Name "sorted" p1) [.Call (.Name "set" p2) [e] [] q1] [] q2) (fun σ H Q => te σ H fun x H1 => rSortSet X.K x H1 Q) := by
  refine ⟨fun pins s σ H Q I h => ?_⟩
  refine Call_ (ld_blt I hg hm (show bootBuiltins "sorted" = some (.builtin "sorted") from by decide +kernel) ?_)
  refine PyProof.Rows.callWith_builtin1 (PyProof.Rows.args_cons ?_ rfl) rfl rfl
  refine Call_ (ld_blt I hg2 hm2 boot_set ?_)
  refine PyProof.Rows.callWith_type1 (PyProof.Rows.args_cons (thn (ha.run pins s σ H _ I h) fun v s1 ⟨x, H1, I1, r1, qq⟩ => PyProof.Rows.args_nil ?_) na) na rfl
  obtain ⟨l, xs, rfl, hq, hl, k⟩ := qq
  cases r1
  obtain ⟨its, r, pl, hz⟩ := I1.list hq
  have big : 1001 < scanBound := by decide
  refine txt_call_list (I1.ok.hd hc) pl.isList (by simpa using L2.strsAre_of r) (by omega) fun s2 made => ?_
  obtain ⟨h', tk, rfl, T, keep⟩ := made
  have I2 : L2.Inv X pins σ H1 { s1 with heap := h', toks := tk } := I1.kept fun b o z => keep b o (Heap.lt_size z) z
  have T : TxtSet X.w ({ s1 with heap := h', toks := tk } : Shared).heap s1.heap.objs.size xs := T
  refine PyProof.Rows.args_nil ?_
  generalize ({ s1 with heap := h', toks := tk } : Shared) = s2 at I2 T ⊢
  refine txt_sorted (s := s2) T (I2.ok.hd hc) (by omega) hu fun s3 p out zs c k3 g3 o3 hp hobj hs hzs => ?_
  obtain ⟨ys, n1, n2, n3, rfl⟩ := hzs
  have fr : H1 p = none := I2.hok.fresh hp
  have sz : ((ys.mergeSort fun x y => !slt y x).map V.str).length ≤ sizeLine := by
    rw [List.length_map, (List.mergeSort_perm _ _).length_eq]
    have := small1000 (Nat.le_trans n3 (Nat.le_of_lt hl))
    omega
  have J : L2.Inv X pins σ (upd H1 p (.lst ((ys.mergeSort fun x y => !slt y x).map V.str))) { s2 with heap := s3.heap, gens := s3.gens, drawn := s3.drawn, toks := s3.toks } :=
    L2.Inv.call (ch := []) I2 (L2.Un.laid k3 hp fr) (I2.hok.laid k3 hp ⟨sz, out, c, vals_strs hs, hobj⟩) (by rw [g3]; exact I2.bare) (fun _ z => nomatch z)
  have same : s3 = { s2 with heap := s3.heap, gens := s3.gens, drawn := s3.drawn, toks := s3.toks } := by
    cases s3
    cases s2
    cases o3
    rfl
  rw [same]
  exact ⟨.ref p, _, J, rfl, k ys n1 n2 p fr⟩
theorem de_sortSet (hu : X.A.units + 64 < cLine) (hc : X.calm = true) (hg : Gl X "sorted") (hm : X.mg "sorted" = none) (hg2 : Gl X "set") (hm2 : X.mg "set" = none) (ha : PE X e (liftE X.K φ))
    (na : starEach [e] X.env = (false, eval e X.env) :: starEach [] X.env := by rfl) : PE X (.Call (.Name "sorted" p1) [.Call (.Name "set" p2) [e] [] q1] [] q2) (liftE X.K (eUn oSortSet φ)) :=
  (pe_sortSet hu hc hg hm hg2 hm2 ha na).imp fun _ _ _ q => un_of us_sortSet q
end
end DL
/-! DL17: written dicts of texts, upper, extend, pop. -/
namespace DL
open PySem PySem.Spec PyProof.Rows L2
/-- a written dict: its texts and their numbers -/
structure WDic (K : PySem.W.Frag) (w : World) (d : Addr) (kvs : List (Str × Int)) : Prop where
  ex : ∃ es n, KDict K w d es n
  get : ∀ z, (∀ i, kvs.lookup z = some i → ∃ t, PySem.W.nsIn K d z = some (some (.int i t))) ∧ (kvs.lookup z = none → PySem.W.nsIn K d z = some none)
def oInW (kvs : List (Str × Int)) (f : Bool → Bool) : O1 := fun x R => match x with
  | .str z => R (.d (.bl (f (kvs.lookup z).isSome)))
  | _ => False
def oIxW (kvs : List (Str × Int)) : O1 := fun x R => match x with
  | .str z => match kvs.lookup z with
    | some i => R (.d (.int i))
    | none => False
  | _ => False
section
variable {X : Cx} {e d : Expr} {φ : PhiE} {pos : Pos} {a : Addr} {kvs : List (Str × Int)}
theorem WDic.is {K : PySem.W.Frag} {w : World} (W : WDic K w a kvs) (z : Str) : ∃ r, PySem.W.nsIn K a z = some r ∧ r.isSome = (kvs.lookup z).isSome := by
  cases h : kvs.lookup z with
  | none => exact ⟨none, (W.get z).2 h, rfl⟩
  | some i =>
    obtain ⟨t, q⟩ := (W.get z).1 i h
    exact ⟨_, q, rfl⟩
def rInW (K : PySem.W.Frag) (a : Addr) (f : Bool → Bool) : R2 := fun x y H Q => ∃ (z : Str) (r : Option Value), x = .str z ∧ y = .ref a ∧ PySem.W.nsIn K a z = some r ∧ Q (.bl (f r.isSome)) H
theorem us_inW {K : PySem.W.Frag} {w : World} {f : Bool → Bool} (W : WDic K w a kvs) : UnS K (fun x H Q => rInW K a f x (.ref a) H Q) (oInW kvs f) := fun G U H μ x d R Q b l h k => by
  cases d with
  | str z =>
    cases l.str
    obtain ⟨r, q1, q2⟩ := W.is z
    exact ⟨z, r, rfl, rfl, q1, by rw [q2]; exact k.bl b h⟩
  | _ => exact h.elim
theorem de_inW (W : WDic X.K X.w a kvs) (he : PE X e (liftE X.K φ)) (hd : PE X d (tC (.ref a))) (hm : behindInMarks .In d = false) : PE X (.Compare e [.In] [d] pos) (liftE X.K (eUn (oInW kvs fun b => b) φ)) := by
  obtain ⟨es, n, D⟩ := W.ex
  exact (pe_cmpR (op_in_kd D) he hd hm).imp fun σ H Q q => un_of (us_inW W) q
theorem de_ninW (W : WDic X.K X.w a kvs) (he : PE X e (liftE X.K φ)) (hd : PE X d (tC (.ref a))) (hm : behindInMarks .NotIn d = false) : PE X (.Compare e [.NotIn] [d] pos) (liftE X.K (eUn (oInW kvs fun b => !b) φ)) := by
  obtain ⟨es, n, D⟩ := W.ex
  exact (pe_cmpR (op_notIn_kd D) he hd hm).imp fun σ H Q q => un_of (us_inW W) q
theorem dt_inW (W : WDic X.K X.w a kvs) (he : PE X e (liftE X.K φ)) (hd : PE X d (tC (.ref a))) (hm : behindInMarks .In d = false) : PT X (.Compare e [.In] [d] pos) (liftT X.K (tB (eUn (oInW kvs fun b => b) φ))) := by
  obtain ⟨es, n, D⟩ := W.ex
  exact (pt_cmpR (op_in_kd D) he hd hm).imp fun σ H Q q => un_of (us_inW W) (tB_of (φ := eUn (oInW kvs fun b => b) φ) q)
theorem dt_ninW (W : WDic X.K X.w a kvs) (he : PE X e (liftE X.K φ)) (hd : PE X d (tC (.ref a))) (hm : behindInMarks .NotIn d = false) : PT X (.Compare e [.NotIn] [d] pos) (liftT X.K (tB (eUn (oInW kvs fun b => !b) φ))) := by
  obtain ⟨es, n, D⟩ := W.ex
  exact (pt_cmpR (op_notIn_kd D) he hd hm).imp fun σ H Q q => un_of (us_inW W) (tB_of (φ := eUn (oInW kvs fun b => !b) φ) q)
theorem de_ixW (W : WDic X.K X.w a kvs) (he : PE X e (liftE X.K φ)) (hd : PE X d (tC (.ref a))) (hp : PlainIx e) : PE X (.Subscript d e pos) (liftE X.K (eUn (oIxW kvs) φ)) := by
  obtain ⟨es, n, D⟩ := W.ex
  refine (pe_ix ix_kdict hd he hp).imp fun σ H Q q => ?_
  refine un_of (X := X) (r := fun x H Q => rIxD X.K X.w (.ref a) x H Q) (o := oIxW kvs) (fun G U H μ x d R Q b l h k => ?_) q
  cases d with
  | str z =>
    cases l.str
    unfold oIxW at h
    simp only at h
    cases hz : kvs.lookup z with
    | none => rw [hz] at h; exact h.elim
    | some i =>
      rw [hz] at h
      obtain ⟨t, q1⟩ := (W.get z).1 i hz
      exact ⟨a, z, .int i, rfl, rfl, ⟨es, n, _, D.at_, D.lit, q1, ⟨t, rfl⟩⟩, k.int b h⟩
  | _ => exact h.elim
/-! upper -/
def oUpper : O1 := fun x R => match x with
  | .str z => z.length ≤ 5592405 ∧ R (.d (.str (Txt.upper z)))
  | _ => False
theorem de_upper {apos : Pos} (he : PE X e (liftE X.K φ)) (hbase : attributeBase e "upper" X.env (eval e X.env) = eval e X.env := by rfl) (hline : (apos.endLine == pos.line) = true := by rfl) : PE X (.Call (.Attribute e "upper" apos) [] [] pos) (liftE X.K (eUn oUpper φ)) :=
  (pe_upper he hbase hline).imp fun σ H Q q => by
    refine un_of (X := X) (r := fun x H1 Q => (∃ a, x = .str a) ∧ ∃ a, x = .str a ∧ ([] : List V) = [] ∧ a.length ≤ 5592405 ∧ Q (.str (Txt.upper a)) H1) (o := oUpper) (fun G U H μ x d R Q b l h k => ?_) q
    cases d with
    | str z => cases l.str; exact ⟨⟨z, rfl⟩, z, rfl, rfl, h.1, k.str b h.2⟩
    | _ => exact h.elim
/-! xs.pop(), xs an own list -/
def ePop (i : Nat) : PhiE := fun s R => match get s.ρ i with
  | .l ds => match ds.getLast? with
    | some d => R (.d d) (s.set i (.l ds.dropLast))
    | none => False
  | _ => False
theorem DVs.dropLast {K : PySem.W.Frag} {G : Hp} {ds : List D} {vs : List V} (h : DVs K G ds vs) : DVs K G ds.dropLast vs.dropLast := by
  rw [List.dropLast_eq_take, List.dropLast_eq_take, h.len]
  exact h.take _
theorem de_pop {i : Nat} {o : Expr} {apos cpos : Pos} (ho : PE X o (tVar i)) (hbase : attributeBase o "pop" X.env (eval o X.env) = eval o X.env := by rfl) (hline : (apos.endLine == cpos.line) = true := by rfl) : PE X (.Call (.Attribute o "pop" apos) [] [] cpos) (liftE X.K (ePop i)) :=
  (pe_bm0 PySem.F.plainAttrs_list PySem.F.slot_list_pop PySem.F.type_list_pop mt_pop ho hbase hline).imp fun σ H Q ⟨G, U, s, R, hst, hr, k⟩ => by
    unfold ePop at hr
    cases e0 : get s.ρ i with
    | l ds =>
      rw [e0] at hr
      simp only at hr
      cases e1 : ds.getLast? with
      | none => rw [e1] at hr; exact hr.elim
      | some d =>
        rw [e1] at hr
        obtain ⟨a, xs, q1, q2, q3, q4⟩ := own_there hst e0
        rw [List.getLast?_eq_getElem?] at e1
        obtain ⟨v, hv, dv⟩ := q4.get e1
        rw [q4.len] at hv
        exact ⟨.ref a, q1, .inl ⟨rfl, xs, SqL.of q3⟩, a, xs, v, rfl, rfl, q3, hv, k _ _ G _ _ hr (Same.refl _) (hst.wr q2 ⟨_, upd_same, q4.dropLast⟩) dv⟩
    | _ => rw [e0] at hr; exact hr.elim
/-! xs.extend(e), xs an own list, e a new one -/
def extk (i : Nat) (k : S → Prop) (r : Sl) (s1 : S) : Prop := match r with
  | .l es => match get s1.ρ i with
    | .l ds => ds.length + es.length ≤ sizeLine ∧ k (s1.set i (.l (ds ++ es)))
    | _ => False
  | _ => False
def sExt (i : Nat) (φ : PhiE) : PhiS := fun Δ s => match get s.ρ i with
  | .l _ => φ s fun r s1 => extk i Δ.nx r s1
  | _ => False
theorem ds_ext {i : Nat} {o : Expr} {apos cpos : Pos} (ho : PE X o (tVar i)) (he : PE X e (liftE X.K φ))
    (hbase : attributeBase o "extend" X.env (eval o X.env) = eval o X.env := by rfl) (hline : (apos.endLine == cpos.line) = true := by rfl) (hs : starEach [e] X.env = [(false, eval e X.env)] := by rfl) (hsw : swapsWith (.Call (.Attribute o "extend" apos) [e] [] cpos) none pos.line X.env = pure false := by rfl)
    (hfew : ((backTo cpos (starEach [e] X.env)).all (fun x => !x.1) && (backToKw cpos (keywordEach [] X.env)).all (fun x => x.1.isSome) && decide ([e].length + ([] : List Keyword).length + (if ([] : List Keyword).isEmpty then 0 else 1) < 30)) = true := by rfl) :
    PS X (.Expr (.Call (.Attribute o "extend" apos) [e] [] cpos) pos) (liftS X.K (sExt i φ)) :=
  (ps_expr (pe_bm PySem.F.plainAttrs_list PySem.F.slot_list_extend PySem.F.type_list_extend mt_extend ho (pa_cons he pa_nil (by rw [hs] <;> rfl)) hbase hfew hline (by rw [hs] <;> rfl) rfl) hsw).imp fun E σ H ⟨G, U, s, Δ, hst, hr, k⟩ => by
    unfold sExt at hr
    cases e0 : get s.ρ i with
    | l ds0 =>
      rw [e0] at hr
      obtain ⟨a, xs, q1, q2, q3, q4⟩ := own_there hst e0
      refine ⟨.ref a, q1, .inl ⟨rfl, xs, SqL.of q3⟩, G, U, s, _, hst, hr, fun r s1 G1 H1 v r1 e1 hs1 hv1 => ?_⟩
      unfold extk at r1
      cases r with
      | l es =>
        simp only at r1
        cases e2 : get s1.ρ i with
        | l ds =>
          rw [e2] at r1
          obtain ⟨a', xs', p1, p2, p3, p4⟩ := own_there hs1 e2
          have : a' = a := by
            rw [q1] at p1
            injection p1 with p1
            injection p1 with p1
            injection p1 with p1
            exact p1.symm
          subst this
          obtain ⟨b, rfl, g1, g2, g3, ⟨zs, z1, z2⟩, _⟩ := hv1
          refine ⟨a', b, xs', zs, rfl, rfl, p3, z1, by rw [← p4.len, ← z2.len]; exact r1.1, ?_⟩
          exact k.nx _ G1 _ σ r1.2 e1 (hs1.wr p2 ⟨_, upd_same, p4.app z2⟩)
        | _ => rw [e2] at r1; exact r1.elim
      | _ => exact r1.elim
    | _ => rw [e0] at hr; exact hr.elim
end
/-! a written dict as it stands -/
inductive WEs (P : Params) : List DictEntry → List (Str × Int) → Prop
  | nil : WEs P [] []
  | cons {e : DictEntry} {r : List DictEntry} {x : Str} {i : Int} {t u : Tok} {l : List (Str × Int)} : e.key = .str x t → e.val = .int i u → e.hash = PyData.keyHash P x → WEs P r l → WEs P (e :: r) ((x, i) :: l)
theorem WEs.lit {P : Params} : ∀ {es : List DictEntry} {l : List (Str × Int)}, WEs P es l → PySem.W.KeysLit P es
  | [], [], .nil => trivial
  | e :: r, (x, i) :: l, .cons h1 _ h3 h4 => ⟨⟨x, _, h1, h3⟩, h4.lit⟩
theorem WEs.find {P : Params} : ∀ {es : List DictEntry} {l : List (Str × Int)}, WEs P es l → ∀ z : Str, (∀ i, l.lookup z = some i → ∃ e t, es.find? (·.key.isStr z) = some e ∧ e.val = .int i t) ∧ (l.lookup z = none → es.find? (·.key.isStr z) = none)
  | [], [], .nil, z => ⟨(fun i h => by cases h), fun _ => rfl⟩
  | e :: r, (x, i) :: l, .cons (t := t) (u := u) h1 h2 h3 h4, z => by
    have ih := h4.find z
    have hk : e.key.isStr z = (x == z) := by rw [h1]; rfl
    by_cases c : z = x
    · subst c
      refine ⟨fun j hj => ?_, fun hj => ?_⟩
      · rw [List.lookup_cons_self] at hj
        cases hj
        exact ⟨e, u, by rw [List.find?_cons_of_pos (by rw [hk]; simp)], h2⟩
      · rw [List.lookup_cons_self] at hj
        cases hj
    · have cx : (x == z) = false := beq_eq_false_iff_ne.mpr fun q => c q.symm
      have cz : (z == x) = false := beq_eq_false_iff_ne.mpr c
      have e1 : ((x, i) :: l).lookup z = l.lookup z := by rw [List.lookup_cons, cz]
      rw [e1, List.find?_cons_of_neg (by rw [hk, cx]; decide)]
      exact ih
theorem WEs.noref {P : Params} : ∀ {es : List DictEntry} {l : List (Str × Int)}, WEs P es l → es.any (·.refKey) = false
  | [], [], .nil => rfl
  | e :: r, (x, i) :: l, .cons h1 _ _ h4 => by
    rw [List.any_cons, h4.noref, Bool.or_false]
    unfold DictEntry.refKey
    rw [h1]
theorem wdic_of {K : PySem.W.Frag} {w : World} {a : Addr} {es : Array DictEntry} {n : Nat} {kvs : List (Str × Int)} (h : K.lookup a = some ⟨.type "dict", none, .dict es n, #[]⟩) (we : WEs w.params es.toList kvs) (low : (a == sysModules) = false) : WDic K w a kvs := by
  refine ⟨⟨es, n, h, we.lit, low⟩, fun z => ⟨fun i hi => ?_, fun hn => ?_⟩⟩
  · obtain ⟨e, t, q1, q2⟩ := (we.find z).1 i hi
    exact ⟨t, by unfold PySem.W.nsIn; rw [h]; simp only [q1, q2]⟩
  · have q := (we.find z).2 hn
    unfold PySem.W.nsIn
    rw [h]
    simp only [q, we.noref]
    rfl
section
variable {ρ : List Sl} {μ : Mu} {i : Nat} {R : Sl → S → Prop} {φ : PhiE} {Δ : DE} {ds es : List D} {RP : Sl → Prop} {x y : Str} {f : Bool → Bool} {kvs : List (Str × Int)} {P : Prop} {s : S} {kk : S → Prop}
def popk (i : Nat) (R : Sl → S → Prop) (s : S) (r : Sl) : Prop := match r with
  | .l ds => match ds.getLast? with
    | some d => R (.d d) (s.set i (.l ds.dropLast))
    | none => False
  | _ => False
theorem zPop : ePop i ⟨ρ, μ⟩ R = popk i R ⟨ρ, μ⟩ (get ρ i) := by
  unfold ePop popk
  cases get ρ i <;> rfl
theorem zpopk : popk i R ⟨ρ, μ⟩ (.l ds) = match ds.getLast? with
    | some d => R (.d d) ⟨put ρ i (.l ds.dropLast), μ⟩
    | none => False := propext Iff.rfl
theorem zExt : sExt i φ Δ ⟨ρ, μ⟩ = appk0 (get ρ i) (φ ⟨ρ, μ⟩ fun r s1 => extk i Δ.nx r s1) := by
  unfold sExt
  cases get ρ i <;> rfl
def extk2 (i : Nat) (k : S → Prop) (es : List D) (s : S) (r : Sl) : Prop := match r with
  | .l ds => ds.length + es.length ≤ sizeLine ∧ k (s.set i (.l (ds ++ es)))
  | _ => False
theorem zextk : extk i kk (.l es) ⟨ρ, μ⟩ = extk2 i kk es ⟨ρ, μ⟩ (get ρ i) := by
  unfold extk extk2
  cases get ρ i <;> rfl
theorem zextk2 : extk2 i kk es ⟨ρ, μ⟩ (.l ds) = (ds.length + es.length ≤ sizeLine ∧ kk ⟨put ρ i (.l (ds ++ es)), μ⟩) := propext Iff.rfl
theorem xUpper : oUpper (.str x) RP = (x.length ≤ 5592405 ∧ RP (.d (.str (Txt.upper x)))) := propext Iff.rfl
theorem xInW : oInW kvs f (.str x) RP = RP (.d (.bl (f (kvs.lookup x).isSome))) := propext Iff.rfl
theorem xIxW : oIxW kvs (.str x) RP = match kvs.lookup x with
    | some i => RP (.d (.int i))
    | none => False := propext Iff.rfl
theorem xLt_ss : oLt (.str x) (.str y) RP = RP (.d (.bl (slt x y))) := by show (True ∧ _) = _; rw [true_and]; rfl
theorem xLe_ss : oLe (.str x) (.str y) RP = RP (.d (.bl (!slt y x))) := by show (True ∧ _) = _; rw [true_and]; rfl
theorem xGt_ss : oGt (.str x) (.str y) RP = RP (.d (.bl (slt y x))) := by show (True ∧ _) = _; rw [true_and]; rfl
theorem xSl_t {xs : List D} {lo hi : Option Int} : oSl (.tup xs) lo hi RP = RP (.d (.tup (cutD xs lo hi))) := propext Iff.rfl
theorem xSl_l {xs : List D} {lo hi : Option Int} : oSl (.lst xs) lo hi RP = RP (.l (cutD xs lo hi)) := propext Iff.rfl
theorem xSl_s {lo hi : Option Int} : oSl (.str x) lo hi RP = (x.length ≤ sizeLine ∧ RP (.d (.str (cutS x lo hi)))) := propext Iff.rfl
end
end DL
/-! DL18: a call that is lent own lists and dicts: they are the frame's own again behind it. -/
namespace DL
open PySem PySem.Spec PyProof.Rows L2
mutual
/-- a tree without lists, dicts and machines -/
def D.imm : D → Bool
  | .tup ds => D.imms ds
  | .lst _ => false
  | .dic _ _ => false
  | .dit _ _ => false
  | .dlr => false
  | .mch _ => false
  | .tpl ds => D.imms ds
  | .non => true
  | .bl _ => true
  | .int _ => true
  | .str _ => true
  | .ty _ => true
  | .ref _ => true
def D.imms : List D → Bool
  | [] => true
  | d :: r => d.imm && D.imms r
end
def Sl.imm : Sl → Bool
  | .d y => y.imm
  | .l y => D.imms y
  | .k _ y => D.imms y
  | .t _ y => D.imms y
  | .no => false
  | .b _ => false
def box : HO → Prop
  | .lst _ => True
  | .dK _ => True
  | .dT _ => True
  | _ => False
section
variable {K : PySem.W.Frag} {G G' U H H' : Hp} {σ : L2.St} {s : S} {v : V} {r x : Sl} {a p : Addr} {μ : Mu}
def Less (G G' : Hp) : Prop := ∀ b, G' b = G b ∨ ∃ o, G b = some o ∧ box o
theorem tup_less {xs : List V} (e : Less G G') (h : G a = some (.tup xs)) : G' a = some (.tup xs) := by
  rcases e a with q | ⟨u, q, bx⟩
  · rw [q]; exact h
  · rw [q] at h
    cases h
    exact bx.elim
theorem sqt_less {xs : List V} (e : Less G G') (h : SqT K G a xs) : SqT K G' a xs := by
  have go : ∀ {o : HO}, G a = some o → ¬ box o → G' a = some o := fun {o} h n => by
    rcases e a with q | ⟨u, q, bx⟩
    · rw [q]; exact h
    · rw [q] at h
      cases h
      exact absurd bx n
  rcases h with (h | ⟨o, h⟩) | h
  · exact .inl (.inl (go h fun z => z))
  · exact .inl (.inr ⟨o, go h fun z => z⟩)
  · exact .inr h
mutual
theorem DV.less (e : Less G G') : ∀ {d : D} {v : V}, d.imm = true → DV K G d v → DV K G' d v
  | .non, _, _, h => h
  | .bl _, _, _, h => h
  | .int _, _, _, h => h
  | .str _, _, _, h => h
  | .ty _, _, _, h => h
  | .ref _, _, _, h => h
  | .tup _, _, i, ⟨a, xs, h1, h2, h3⟩ => ⟨a, xs, h1, tup_less e h2, DVs.less e i h3⟩
  | .tpl _, _, i, ⟨a, xs, h1, h2, h3⟩ => ⟨a, xs, h1, sqt_less e h2, DVs.less e i h3⟩
  | .lst _, _, i, _ => by cases i
  | .dic _ _, _, i, _ => by cases i
  | .dit _ _, _, i, _ => by cases i
  | .dlr, _, i, _ => by cases i
  | .mch _, _, i, _ => by cases i
theorem DVs.less (e : Less G G') : ∀ {ds : List D} {vs : List V}, D.imms ds = true → DVs K G ds vs → DVs K G' ds vs
  | [], _, _, h => h
  | d :: ds, _, i, ⟨x, r, h1, h2, h3⟩ => by
    have i : (d.imm && D.imms ds) = true := i
    rw [Bool.and_eq_true] at i
    exact ⟨x, r, h1, DV.less e i.1 h2, DVs.less e i.2 h3⟩
end
theorem Hd.less (e : Less G G') (eh : H a = H' a) (i : x.imm = true) (h : Hd K G H a x) : Hd K G' H' a x := by
  cases x with
  | l ds => obtain ⟨xs, h1, h2⟩ := h; exact ⟨xs, eh ▸ h1, h2.less e i⟩
  | k ks ds => obtain ⟨xs, h1, h2, h3⟩ := h; exact ⟨xs, eh ▸ h1, h2, h3.less e i⟩
  | t ks ds => obtain ⟨xs, h1, h2, h3⟩ := h; exact ⟨xs, eh ▸ h1, h2, h3.less e i⟩
  | _ => exact h.elim
theorem Hd.box (h : Hd K G H a x) : ∃ o, H a = some o ∧ box o := by
  cases x with
  | l ds => obtain ⟨xs, h1, h2⟩ := h; exact ⟨_, h1, trivial⟩
  | k ks ds => obtain ⟨xs, h1, h2, h3⟩ := h; exact ⟨_, h1, trivial⟩
  | t ks ds => obtain ⟨xs, h1, h2, h3⟩ := h; exact ⟨_, h1, trivial⟩
  | _ => exact h.elim
/-- what the callee sees as fixed: the own lists and dicts, too -/
theorem St.lend (h : St K G U H σ s) (hm : s.μ = fun _ => none) : Same G (Uo G H σ s.ρ) ∧ Base K (Uo G H σ s.ρ) U H (fun _ => none) := by
  have e : Same G (Uo G H σ s.ρ) := fun b o q => by
    rw [Uo_not]
    · exact q
    · rintro ⟨i, hi⟩
      rw [(h.own_facts hi).1] at q
      cases q
  refine ⟨e, fun b o q => ?_, h.base.usub, fun b o q => ⟨?_, rfl⟩, (fun b o q => by cases q), h.base.bx⟩
  · by_cases hb : ∃ i, OwnAt σ s.ρ i b
    · obtain ⟨i, hb⟩ := hb
      rw [Uo_own hb] at q
      exact q
    · rw [Uo_not hb] at q
      exact h.base.sub b o q
  · rw [Uo_not]
    · exact (h.base.ug b o q).1
    · rintro ⟨i, hi⟩
      rw [(h.own_facts hi).2.1] at q
      cases q
open Classical in
noncomputable def Gb (G : Hp) (σ : L2.St) (ρ : List Sl) : Hp := fun a => if (∃ i, OwnAt σ ρ i a) then none else G a
theorem Gb_own {ρ : List Sl} {i : Nat} (h : OwnAt σ ρ i a) : Gb G σ ρ a = none := if_pos ⟨i, h⟩
theorem Gb_not {ρ : List Sl} (h : ¬ ∃ i, OwnAt σ ρ i a) : Gb G σ ρ a = G a := if_neg h
theorem St.unlend (h : St K G U H σ s) (hm : s.μ = fun _ => none) {μ' : Mu} (e : Same (Uo G H σ s.ρ) G') (b : Base K G' U H' μ') :
    Same G (Gb G' σ s.ρ) ∧ St K (Gb G' σ s.ρ) U H' σ s ∧ ∀ r v, r.imm = true → Res K G' U H' μ' v r → RsOk K (Gb G' σ s.ρ) U H' σ s v r := by
  have own : ∀ {i a}, OwnAt σ s.ρ i a → ∃ o, H a = some o ∧ G' a = some o ∧ H' a = some o ∧ box o := fun {i a} ha => by
    obtain ⟨o, ho, bx⟩ := (h.own_facts ha).2.2.2.box
    have q : G' a = some o := e a o ((Uo_own ha).trans ho)
    exact ⟨o, ho, q, b.sub a o q, bx⟩
  have sm : Same G (Gb G' σ s.ρ) := fun c o q => by
    by_cases hc : ∃ i, OwnAt σ s.ρ i c
    · obtain ⟨i, hi⟩ := hc
      rw [(h.own_facts hi).1] at q
      cases q
    · rw [Gb_not hc]
      exact e c o ((h.lend hm).1 c o q)
  have ls : Less G' (Gb G' σ s.ρ) := fun c => by
    by_cases hc : ∃ i, OwnAt σ s.ρ i c
    · obtain ⟨i, hi⟩ := hc
      obtain ⟨o, _, q, _, bx⟩ := own hi
      exact .inr ⟨o, q, bx⟩
    · exact .inl (Gb_not hc)
  have none_of : ∀ {c}, G' c = none → Gb G' σ s.ρ c = none := fun {c} q => by
    by_cases hc : ∃ i, OwnAt σ s.ρ i c
    · obtain ⟨i, hi⟩ := hc
      exact Gb_own hi
    · rw [Gb_not hc]; exact q
  refine ⟨sm, ⟨⟨fun c o q => ?_, b.usub, fun c o q => ⟨none_of (b.ug c o q).1, by rw [hm]⟩, (fun c o q => by rw [hm] at q; cases q), b.bx⟩, h.len, fun i => ?_, h.dis⟩, fun r v im hr => ?_⟩
  · by_cases hc : ∃ i, OwnAt σ s.ρ i c
    · obtain ⟨i, hi⟩ := hc
      rw [Gb_own hi] at q
      cases q
    · rw [Gb_not hc] at q
      exact b.sub c o q
  · cases hx : (get s.ρ i).own with
    | true =>
      obtain ⟨a, e1, oa, h1, h2, h3, h4⟩ := h.ownAt hx
      obtain ⟨o, p1, p2, p3, _⟩ := own oa
      exact .ofOwn ⟨a, join_of e1, Gb_own oa, h2, h3, h4.mono sm (p1.trans p3.symm)⟩
    | false =>
      have hs := h.slot i
      cases e' : get s.ρ i with
      | no => exact trivial
      | d d =>
        rw [e'] at hs
        obtain ⟨v, h1, h2⟩ := hs
        exact ⟨v, h1, h2.mono sm⟩
      | b j => rw [e'] at hs; exact hs.elim
      | l ds => rw [e'] at hx; cases hx
      | k ks ds => rw [e'] at hx; cases hx
      | t ks ds => rw [e'] at hx; cases hx
  · cases ho : r.own with
    | true =>
      obtain ⟨p, rfl, h1, h2, h3, h4⟩ := (Res.own ho).mp hr
      refine (RsOk.own ho).mpr ⟨p, rfl, none_of h1, h2, by rw [hm], h4.less ls rfl im, fun i hi => ?_⟩
      obtain ⟨o, _, q, _, _⟩ := own hi
      rw [h1] at q
      cases q
    | false =>
      cases r with
      | d d => exact DV.less ls im hr
      | no => exact hr.elim
      | b i => exact hr.elim
      | l ds => cases ho
      | k ks ds => cases ho
      | t ks ds => cases ho
end
/-! ### arguments, lent -/
abbrev PhiL := S → (List Sl → S → Prop) → Prop
def lNil : PhiL := fun s R => R [] s
def lCons (φ : PhiE) (ψ : PhiL) : PhiL := fun s R => φ s fun r s1 => ψ s1 fun rs s2 => R (pin r :: rs) s2
def Pns (K : PySem.W.Frag) (G : Hp) (σ : L2.St) : List V → List Sl → Prop
  | [], [] => True
  | v :: vs, r :: rs => Pn K G σ v r ∧ Pns K G σ vs rs
  | _, _ => False
theorem Pns.mono {K : PySem.W.Frag} {G G' : Hp} {σ : L2.St} (e : Same G G') : ∀ {vs : List V} {rs : List Sl}, Pns K G σ vs rs → Pns K G' σ vs rs
  | [], [], h => h
  | _ :: _, _ :: _, h => ⟨h.1.mono e, h.2.mono e⟩
  | [], _ :: _, h => h
  | _ :: _, [], h => h
def liftL (K : PySem.W.Frag) (ψ : PhiL) : TA := fun σ H Q => ∃ G U s R, St K G U H σ s ∧ ψ s R ∧ ∀ rs s' G' H' vs, R rs s' → Same G G' → St K G' U H' σ s' → Pns K G' σ vs rs → Q vs H'
def lkL : List Sl → S → (List D → Prop) → Prop
  | [], _, k => k []
  | r :: rs, s, k => lk r s fun d => lkL rs s fun ds => k (d :: ds)
section
variable {X : Cx} {e : Expr} {es : List Expr} {φ : PhiE} {ψ : PhiL}
theorem dl_nil : PA X [] (liftL X.K lNil) := pa_nil.imp fun σ H Q ⟨G, U, s, R, hs, hr, k⟩ => k [] s G H [] hr (Same.refl _) hs trivial
theorem dl_cons (h : PE X e (liftE X.K φ)) (hr : PA X es (liftL X.K ψ)) (hs : starEach (e :: es) X.env = (false, eval e X.env) :: starEach es X.env := by rfl) : PA X (e :: es) (liftL X.K (lCons φ ψ)) :=
  (pa_cons h hr hs).imp fun σ H Q ⟨G, U, s, R, hs, hr, k⟩ => by
    refine ⟨G, U, s, _, hs, hr, fun r1 s1 G1 H1 v1 q1 e1 hs1 hv1 => ?_⟩
    obtain ⟨G1', e1', hs1', d1⟩ := pin_ok hs1 hv1
    exact ⟨G1', U, _, _, hs1', q1, fun ds s2 G2 H2 vs q2 e2 hs2 dvs => k _ s2 G2 H2 _ q2 ((e1.trans e1').trans e2) hs2 ⟨Pn.mono e2 d1, dvs⟩⟩
theorem lk_lend {K : PySem.W.Frag} {G U H : Hp} {σ : L2.St} {s : S} {v : V} {r : Sl} {k : D → Prop} (h : St K G U H σ s) (e : Same G (Uo G H σ s.ρ)) (hr : Pn K G σ v r) (hk : lk r s k) : ∃ d, DV K (Uo G H σ s.ρ) d v ∧ k d := by
  rcases hr with ⟨d, rfl, h2⟩ | ⟨i, rfl, h2⟩
  · exact ⟨d, h2.mono e, hk⟩
  · have hs := h.slot i
    unfold lk at hk
    simp only at hk
    have ownc : (get s.ρ i).own = true → DV K (Uo G H σ s.ρ) (frzD (get s.ρ i)) v := fun ho => by
      obtain ⟨a, e1, oa, h1, h2', h3, h4⟩ := h.ownAt ho
      rw [h2] at e1
      cases e1
      obtain ⟨o, ho'⟩ := h4.there
      exact h4.frz ho' e ((Uo_own oa).trans ho')
    cases e' : get s.ρ i with
    | d d =>
      rw [e'] at hk hs
      obtain ⟨w, h3, h4⟩ := hs
      rw [join_of h2] at h3
      cases h3
      exact ⟨d, h4.mono e, hk⟩
    | no => rw [e'] at hk; exact hk.elim
    | b j => rw [e'] at hk; exact hk.elim
    | l ds => rw [e'] at hk ownc; exact ⟨_, ownc rfl, hk⟩
    | k ks ds => rw [e'] at hk ownc; exact ⟨_, ownc rfl, hk⟩
    | t ks ds => rw [e'] at hk ownc; exact ⟨_, ownc rfl, hk⟩
theorem lkL_ok {K : PySem.W.Frag} {G U H : Hp} {σ : L2.St} {s : S} (h : St K G U H σ s) (e : Same G (Uo G H σ s.ρ)) : ∀ {rs : List Sl} {vs : List V} {k : List D → Prop}, Pns K G σ vs rs → lkL rs s k → ∃ ds, DVs K (Uo G H σ s.ρ) ds vs ∧ k ds
  | [], [], k, _, hk => ⟨[], rfl, hk⟩
  | r :: rs, v :: vs, k, hp, hk => by
    obtain ⟨d, h1, hk⟩ := lk_lend h e hp.1 hk
    obtain ⟨ds, h2, hk⟩ := lkL_ok h e hp.2 hk
    exact ⟨d :: ds, ⟨v, vs, rfl, h1, h2⟩, hk⟩
  | [], _ :: _, _, hp, _ => hp.elim
  | _ :: _, [], _, hp, _ => hp.elim
end
section
variable {X : Cx} {k n : Nat} {f : Addr} {fd : FuncData} {ps : List Str} {F : FD} {x : Str} {p pos : Pos} {e : Expr} {es : List Expr} {ψ : PhiL} {ds0 : List D} {dvs : List V} {us : List Value}
def eCallL (F : FD) (ds0 : List D) (ψ : PhiL) : PhiE := fun s R => ψ s fun rs s1 => lkL rs s1 fun ds => s1.μ = (fun _ => none) ∧ F (ds ++ ds0) (fun _ => none) fun r _ => r.imm = true ∧ R r s1
theorem call_ofL {σ : L2.St} {H : Hp} {Q : VK} (hv : ∀ G, DVs X.K G ds0 dvs) (hn : ∀ ds μ R, F ds μ R → ds.length = n) (q : liftE X.K (eCallL F ds0 ψ) σ H Q) : tCall (spD X.K n F) dvs E0 (liftL X.K ψ) σ H Q := by
  obtain ⟨G, U, s, R, hs, hr, k⟩ := q
  refine ⟨G, U, s, _, hs, hr, fun rs s1 G1 H1 vs q1 e1 hs1 dv => ?_⟩
  have hm : s1.μ = fun _ => none := by
    obtain ⟨ds, _, h2⟩ := lkL_ok (k := fun ds => s1.μ = (fun _ => none) ∧ F (ds ++ ds0) (fun _ => none) fun r _ => r.imm = true ∧ R r s1) hs1 (fun b o q => by
      rw [Uo_not]
      · exact q
      · rintro ⟨i, hi⟩
        rw [(hs1.own_facts hi).1] at q
        cases q) dv q1
    exact h2.1
  obtain ⟨e2, b2⟩ := hs1.lend hm
  obtain ⟨ds, hd, _, hF⟩ := lkL_ok hs1 e2 dv q1
  refine ⟨_, U, ds ++ ds0, fun _ => none, _, b2, hd.app (hv _), hn _ _ _ hF, hF, fun r v μ' G' H' q e b hv' => ?_⟩
  obtain ⟨a1, a2, a3⟩ := hs1.unlend hm e b
  exact k r _ _ H' v q.2 (e1.trans a1) a2 (a3 r v q.1 hv')
theorem de_callL (Fk : FnOk X.prog X.w X.K X.mg X.base CX0 k f fd ps (spD X.K n F)) (hr : Room k X.A) (hg : Gl X x) (hm : X.mg x = some (.ref f)) (hk : PySem.W.keepIn X.K (.ref f) = true) (hb : Binds X.K fd ps us) (hd : Vals dvs us) (hv : ∀ G, DVs X.K G ds0 dvs)
    (ha : PA X (e :: es) (liftL X.K ψ)) (hdb : (x == ("__debug__" : Str)) = false := by decide) (he : starEach (e :: es) X.env = (false, eval e X.env) :: starEach es X.env := by rfl) (hpl : (backTo pos (starEach es X.env)).any (·.1) = false := by rfl) :
    PE X (.Call (.Name x p) (e :: es) [] pos) (liftE X.K (eCallL (fdn n F) ds0 ψ)) :=
  L2.PE.imp (t := tCall (spD X.K n (fdn n F)) dvs E0 (liftL X.K ψ)) (pe_call (by rw [spD_n]; exact Fk) hr hg hm hk hb hd pass0 ha hdb he hpl) fun σ H Q q => call_ofL hv (fun _ _ _ h => h.1) q
end
section
variable {ρ : List Sl} {μ : Mu} {i : Nat} {R : Sl → S → Prop} {RL : List Sl → S → Prop} {φ : PhiE} {ψ : PhiL} {ds es : List D} {ks : List Key} {d : D} {r : Sl} {rs : List Sl} {F : FD} {s : S} {K : List D → Prop} {x : Str} {j : Int} {b : Bool}
theorem zlNil : lNil ⟨ρ, μ⟩ RL = RL [] ⟨ρ, μ⟩ := propext Iff.rfl
theorem zlCons : lCons φ ψ ⟨ρ, μ⟩ RL = φ ⟨ρ, μ⟩ fun r s1 => ψ s1 fun rs s2 => RL (pin r :: rs) s2 := propext Iff.rfl
theorem zpin_d : pin (.d d) = .d d := rfl
theorem zpin_l : pin (.l ds) = .d (.lst ds) := rfl
theorem zpin_k : pin (.k ks ds) = .d (.dic ks ds) := rfl
theorem zpin_b : pin (.b i) = .b i := rfl
theorem zlkL0 : lkL [] s K = K [] := propext Iff.rfl
theorem zlkL1 : lkL (r :: rs) s K = lk r s fun d => lkL rs s fun ds => K (d :: ds) := propext Iff.rfl
theorem zCallL : eCallL F es ψ ⟨ρ, μ⟩ R = ψ ⟨ρ, μ⟩ fun rs s1 => lkL rs s1 fun ds => s1.μ = (fun _ => none) ∧ F (ds ++ es) (fun _ => none) fun r _ => r.imm = true ∧ R r s1 := propext Iff.rfl
theorem zimm_d : Sl.imm (.d d) = d.imm := rfl
theorem zimm_l : Sl.imm (.l ds) = D.imms ds := rfl
theorem zimm_k : Sl.imm (.k ks ds) = D.imms ds := rfl
theorem zimm_i : D.imm (.int j) = true := rfl
theorem zimm_s : D.imm (.str x) = true := rfl
theorem zimm_b : D.imm (.bl b) = true := rfl
theorem zimm_n : D.imm .non = true := rfl
theorem zimm_t : D.imm (.tup ds) = D.imms ds := rfl
theorem zimm_0 : D.imms [] = true := rfl
theorem zimm_1 : D.imms (d :: ds) = (d.imm && D.imms ds) := rfl
/-! sorted(set(texts)) -/
theorem zSortSet {RP : Sl → Prop} {xs : List Str} : oSortSet (.lst (xs.map .str)) RP = (xs.length < 1000 ∧ ∀ ys : List Str, ys.Nodup → (∀ x, x ∈ ys ↔ x ∈ xs) → RP (.l ((ys.mergeSort fun x y => !slt y x).map D.str))) := by
  unfold oSortSet
  simp only [asStrs_map]
end
end DL
/-! DL19: texts and pairs of texts in order. -/
namespace DL
open PySem PySem.Spec PyProof.Rows L2
theorem str_ext {x y : Str} (h : x.cps.toList = y.cps.toList) : x = y := by
  cases x
  cases y
  congr 1
  exact Array.toList_inj.mp h
theorem slt_iff {x y : Str} : slt x y = true ↔ x.cps.toList < y.cps.toList := by
  unfold slt
  exact decide_eq_true_iff
theorem nslt_iff {x y : Str} : (!slt y x) = true ↔ x.cps.toList ≤ y.cps.toList := by
  rw [Bool.not_eq_true', ← Bool.not_eq_true, slt_iff]
  exact Iff.rfl
theorem slt_irr (x : Str) : slt x x = false := by
  rw [← Bool.not_eq_true, slt_iff]
  exact List.lt_irrefl _
theorem slt_tr {x y z : Str} (h : slt x y = true) (g : slt y z = true) : slt x z = true := slt_iff.mpr (List.lt_trans (slt_iff.mp h) (slt_iff.mp g))
theorem slt_as {x y : Str} (h : slt x y = true) : slt y x = false := by
  cases e : slt y x with
  | false => rfl
  | true => have := slt_tr h e; rw [slt_irr] at this; cases this
theorem slt_neq {x y : Str} (h : slt x y = true) : x ≠ y := fun e => by
  subst e
  rw [slt_irr] at h
  cases h
theorem slt_tri {x y : Str} (h : x ≠ y) : slt x y = true ∨ slt y x = true := by
  by_cases a : slt x y = true
  · exact .inl a
  · by_cases b : slt y x = true
    · exact .inr b
    · rw [slt_iff] at a b
      exact absurd (str_ext (List.le_antisymm (List.not_lt.mp b) (List.not_lt.mp a))) h
def leS (x y : Str) : Bool := !slt y x
theorem leS_tr (x y z : Str) (h : leS x y = true) (g : leS y z = true) : leS x z = true := nslt_iff.mpr (List.le_trans (nslt_iff.mp h) (nslt_iff.mp g))
theorem leS_tot (x y : Str) : (leS x y || leS y x) = true := by
  unfold leS
  cases e : slt y x with
  | false => rfl
  | true => rw [slt_as e]; rfl
def sortS (xs : List Str) : List Str := xs.mergeSort leS
theorem sortS_mem {xs : List Str} {x : Str} : x ∈ sortS xs ↔ x ∈ xs := List.mem_mergeSort
theorem sortS_len {xs : List Str} : (sortS xs).length = xs.length := List.length_mergeSort _
theorem sortS_asc {xs : List Str} (h : xs.Nodup) : (sortS xs).Pairwise fun x y => slt x y = true := by
  have p := List.pairwise_mergeSort leS_tr leS_tot xs
  have n : (sortS xs).Nodup := (List.mergeSort_perm _ _).nodup_iff.mpr h
  refine (List.pairwise_and_iff.mpr ⟨p, n⟩).imp fun {x y} q => ?_
  rcases slt_tri q.2 with a | a
  · exact a
  · have := q.1
    unfold leS at this
    rw [a] at this
    cases this
theorem oks_str : ∀ vs : List Str, D.oks (vs.map D.str) = true
  | [] => rfl
  | v :: vs => by
    show (true && D.oks (vs.map D.str)) = true
    rw [oks_str vs]
    rfl
theorem deps_str : ∀ vs : List Str, D.deps (vs.map D.str) = 0
  | [] => rfl
  | v :: vs => by
    show max 0 (D.deps (vs.map D.str)) = 0
    rw [deps_str vs]
    rfl
theorem cin_str {x : Str} {vs : List Str} : cIn (.str x) (vs.map D.str) = True := eq_true ⟨⟨rfl, oks_str vs⟩, by rw [deps_str]; show min 0 0 ≤ 50; decide⟩
theorem any_str (x : Str) : ∀ vs : List Str, ((vs.map D.str).any fun z => D.eq z (.str x)) = decide (x ∈ vs)
  | [] => rfl
  | v :: vs => by
    rw [List.map_cons, List.any_cons, any_str x vs]
    show ((v == x) || decide (x ∈ vs)) = _
    rw [Str.beq_dec]
    by_cases h : v = x
    · subst h; simp
    · have h' : ¬ x = v := fun e => h e.symm
      simp [h, h']
theorem xInS_t {x : Str} {vs : List Str} {f : Bool → Bool} {R : Sl → Prop} : oIn f (.str x) (.tup (vs.map D.str)) R = R (.d (.bl (f (decide (x ∈ vs))))) := by
  rw [xIn_t, cin_str, any_str, true_and]
theorem xInS_l {x : Str} {vs : List Str} {f : Bool → Bool} {R : Sl → Prop} : oIn f (.str x) (.lst (vs.map D.str)) R = R (.d (.bl (f (decide (x ∈ vs))))) := by
  rw [xIn_l, cin_str, any_str, true_and]
theorem csort_str (xs : List Str) : cSort (xs.map D.str) := by
  refine ⟨fun d hd => ?_, fun d hd e he => ?_, .inr fun d hd ys => ?_⟩
  · obtain ⟨x, _, rfl⟩ := List.mem_map.mp hd
    exact ⟨rfl, Nat.zero_le _, fun z => by cases z⟩
  · obtain ⟨x, _, rfl⟩ := List.mem_map.mp hd
    obtain ⟨y, _, rfl⟩ := List.mem_map.mp he
    rfl
  · obtain ⟨x, _, rfl⟩ := List.mem_map.mp hd
    exact fun z => by cases z
theorem sort_str (xs : List Str) : (xs.map D.str).mergeSort leD = (sortS xs).map D.str :=
  (List.map_mergeSort (r := leS) (s := leD) (f := D.str) fun _ _ _ _ => rfl).symm
/-! pairs of texts -/
def sp (p : Str × Str) : D := .tup [.str p.1, .str p.2]
theorem lt_sp (p q : Str × Str) : D.lt (sp p) (sp q) = if p.1 = q.1 then slt p.2 q.2 else slt p.1 q.1 := by
  show (if (p.1 == q.1) = true then (if (p.2 == q.2) = true then false else slt p.2 q.2) else slt p.1 q.1) = _
  rw [Str.beq_dec, Str.beq_dec]
  by_cases h : p.1 = q.1
  · by_cases g : p.2 = q.2
    · simp [h, g, slt_irr]
    · simp [h, g]
  · simp [h]
def leP2 (p q : Str × Str) : Bool := leD (sp p) (sp q)
theorem leP2_tr (x y z : Str × Str) (h : leP2 x y = true) (g : leP2 y z = true) : leP2 x z = true := by
  unfold leP2 leD at *
  rw [lt_sp] at *
  by_cases a : y.1 = x.1
  · rw [if_pos a] at h
    by_cases b : z.1 = y.1
    · rw [if_pos b] at g
      rw [if_pos (b.trans a)]
      exact leS_tr _ _ _ h g
    · rw [if_neg b] at g
      rw [if_neg (fun e => b (e.trans a.symm)), ← a]
      exact g
  · rw [if_neg a] at h
    by_cases b : z.1 = y.1
    · rw [if_neg (fun e => a (b.symm.trans e)), b]
      exact h
    · rw [if_neg b] at g
      have c := leS_tr _ _ _ h g
      by_cases e : z.1 = x.1
      · rw [e] at g
        have : slt x.1 y.1 = true := (slt_tri fun q => a q.symm).resolve_right fun q => by rw [q] at h; cases h
        rw [this] at g
        cases g
      · rw [if_neg e]
        exact c
theorem leP2_tot (x y : Str × Str) : (leP2 x y || leP2 y x) = true := by
  unfold leP2 leD
  rw [lt_sp, lt_sp]
  by_cases a : y.1 = x.1
  · rw [if_pos a, if_pos a.symm]
    exact leS_tot _ _
  · rw [if_neg a, if_neg fun e => a e.symm]
    exact leS_tot _ _
def sortP (xs : List (Str × Str)) : List (Str × Str) := xs.mergeSort leP2
theorem sortP_mem {xs : List (Str × Str)} {x : Str × Str} : x ∈ sortP xs ↔ x ∈ xs := List.mem_mergeSort
theorem sortP_len {xs : List (Str × Str)} : (sortP xs).length = xs.length := List.length_mergeSort _
theorem sortP_asc {xs : List (Str × Str)} (h : xs.Pairwise fun p q => p.1 ≠ q.1) : (sortP xs).Pairwise fun x y => slt x.1 y.1 = true := by
  have p := List.pairwise_mergeSort leP2_tr leP2_tot xs
  have n : (sortP xs).Pairwise fun p q => p.1 ≠ q.1 := (List.mergeSort_perm _ _).symm.pairwise h fun {a b} z => z.symm
  refine (List.pairwise_and_iff.mpr ⟨p, n⟩).imp fun {x y} q => ?_
  rcases slt_tri q.2 with a | a
  · exact a
  · have := q.1
    unfold leP2 leD at this
    rw [lt_sp, if_neg fun e => q.2 e.symm, a] at this
    cases this
theorem csort_sp (xs : List (Str × Str)) : cSort (xs.map sp) := by
  refine ⟨fun d hd => ?_, fun d hd e he => ?_, .inl fun d hd => ?_⟩
  · obtain ⟨x, _, rfl⟩ := List.mem_map.mp hd
    exact ⟨rfl, by show 1 ≤ 50; decide, fun z => by cases z⟩
  · obtain ⟨x, _, rfl⟩ := List.mem_map.mp hd
    obtain ⟨y, _, rfl⟩ := List.mem_map.mp he
    rfl
  · obtain ⟨x, _, rfl⟩ := List.mem_map.mp hd
    exact ⟨_, _, rfl⟩
theorem sort_sp (xs : List (Str × Str)) : (xs.map sp).mergeSort leD = (sortP xs).map sp :=
  (List.map_mergeSort (r := leP2) (s := leD) (f := sp) fun _ _ _ _ => rfl).symm
end DL
/-! DL20: errors: raised, let out of a def, caught. -/
namespace DL
open PySem PySem.Spec PyProof.Rows L2
/-- an error: its class's name, its fields -/
structure Ex where
  c : Str
  fs : List (Str × D)
abbrev PhiX := Ex → S → Prop
abbrev MuX := Ex → Mu → Prop
abbrev FDX := List D → Mu → (Sl → Mu → Prop) → MuX → Prop
abbrev Mgl := Str → Option Value
def exOk (K : PySem.W.Frag) (mg : Mgl) (G : Hp) (e : Ex) (cls : Value) (d : Option Addr) : Prop := ∃ C, mg e.c = some (.ref C) ∧ cls = .ref C ∧
  ((e.fs = [] ∧ d = none) ∨ e.fs ≠ [] ∧ ∃ a vs, d = some a ∧ G a = some (.xd ((e.fs.map (·.1)).zip vs)) ∧ DVs K G (e.fs.map (·.2)) vs)
def XOk (K : PySem.W.Frag) (mg : Mgl) (G U : Hp) (Ξ : PhiX) (W : WX) : Prop := ∀ e cls d s' G' H' σ', Ξ e s' → Same G G' → St K G' U H' σ' s' → exOk K mg G' e cls d → W cls d σ' H'
theorem XOk.mono {K : PySem.W.Frag} {mg : Mgl} {G G' U : Hp} {Ξ : PhiX} {W : WX} (e : Same G G') (h : XOk K mg G U Ξ W) : XOk K mg G' U Ξ W := fun x cls d s' G1 H' σ' q e1 hs ho => h x cls d s' G1 H' σ' q (e.trans e1) hs ho
def liftEX (K : PySem.W.Frag) (mg : Mgl) (W : WX) (Ξ : PhiX) (φ : PhiE) : TE := fun σ H Q => ∃ G U s R, St K G U H σ s ∧ φ s R ∧ (∀ r s' G' H' v, R r s' → Same G G' → St K G' U H' σ s' → RsOk K G' U H' σ s' v r → Q v H') ∧ XOk K mg G U Ξ W
def liftTX (K : PySem.W.Frag) (mg : Mgl) (W : WX) (Ξ : PhiX) (φ : PhiT) : TT := fun σ H Q => ∃ G U s R, St K G U H σ s ∧ φ s R ∧ (∀ b s' G' H', R b s' → Same G G' → St K G' U H' σ s' → Q b H') ∧ XOk K mg G U Ξ W
def liftAX (K : PySem.W.Frag) (mg : Mgl) (W : WX) (Ξ : PhiX) (φ : PhiA) : TA := fun σ H Q => ∃ G U s R, St K G U H σ s ∧ φ s R ∧ (∀ ds s' G' H' vs, R ds s' → Same G G' → St K G' U H' σ s' → DVs K G' ds vs → Q vs H') ∧ XOk K mg G U Ξ W
def liftSX (K : PySem.W.Frag) (mg : Mgl) (W : WX) (Ξ : PhiX) (φ : PhiS) : TS := fun E σ H => ∃ G U s Δ, St K G U H σ s ∧ φ Δ s ∧ EOk K G U Δ E ∧ XOk K mg G U Ξ W
def spX (K : PySem.W.Frag) (mg : Mgl) (n : Nat) (F : FDX) : Sp := fun vs H Q E => ∃ G U ds μ R Ξ, Base K G U H μ ∧ DVs K G ds vs ∧ ds.length = n ∧ F ds μ R Ξ ∧ (∀ r v μ' G' H', R r μ' → Same G G' → Base K G' U H' μ' → Res K G' U H' μ' v r → Q v H') ∧
  ∀ e cls d μ' G' H', Ξ e μ' → Same G G' → Base K G' U H' μ' → exOk K mg G' e cls d → E cls d H'
theorem spX_len {K : PySem.W.Frag} {mg : Mgl} {n : Nat} {F : FDX} {vs : List V} {H : Hp} {Q : VK} {E : XK} (h : spX K mg n F vs H Q E) : vs.length = n := by
  obtain ⟨G, U, ds, μ, R, Ξ, hb, hd, hl, _⟩ := h
  exact hd.len.symm.trans hl
def bodyX (m : Nat) (Φ : PhiX → PhiS) : FDX := fun ds μ R Ξ => Φ (fun e s => Ξ e s.μ) { nx := fun s => R (.d .non) s.μ, rt := R } ⟨ρ0 m ds, μ⟩
def fdnX (n : Nat) (F : FDX) : FDX := fun ds μ R Ξ => ds.length = n ∧ F ds μ R Ξ
theorem spX_n {K : PySem.W.Frag} {mg : Mgl} {n : Nat} {F : FDX} : spX K mg n (fdnX n F) = spX K mg n F := by
  funext vs H Q E
  refine propext ⟨fun ⟨G, U, ds, μ, R, Ξ, a, b, c, d, e⟩ => ⟨G, U, ds, μ, R, Ξ, a, b, c, d.2, e⟩, fun ⟨G, U, ds, μ, R, Ξ, a, b, c, d, e⟩ => ⟨G, U, ds, μ, R, Ξ, a, b, c, ⟨c, d⟩, e⟩⟩
section
variable {P : Program} {w : World} {K : PySem.W.Frag} {mg : Mgl} {base : Heap}
theorem fnX_ok {x qual : Str} {st : Stmt} {f : Addr} {fd : FuncData} {N ps : List Str} {k : Nat} {Φ : PhiX → PhiS} (F : Fun K x qual st f fd) (S : FnScope N ps (defScope st))
    (hbody : ∀ (Ξ : PhiX) (E : XK) (cdv : Value) (A : Around) (outer : List Env) (s : Shared) (H : Hp), Room k (A.deeper (envOfC qual (defScope st) s.heap.objs.size f cdv)) →
      PSs (cxOf (L2.CX P w) P w K mg base N qual (defScope st) f cdv A outer s H E) (defBody st) (liftSX K mg (fun cls d _ H => E cls d H) Ξ (Φ Ξ))) : FnOk P w K mg base (L2.CX P w) (k + 1) f fd ps (spX K mg ps.length (bodyX N.length Φ)) := by
  refine F.okX S (fun vs H Q E h => spX_len h) fun cdv A outer s H vs Q E hr hsp => ?_
  obtain ⟨G, U, ds, μ, R, Ξ, hb, hd, hl, hF, k, x⟩ := hsp
  refine ⟨_, hbody (fun e s => Ξ e s.μ) E cdv A outer s H hr, ?_⟩
  have hle : ps.length ≤ N.length := by
    have := S.pre
    have := congrArg List.length this
    rw [List.length_take] at this
    omega
  exact ⟨G, U, _, _, start_st hb hd (by omega), hF, ⟨fun s' G' H' σ' q e hs' => k _ _ _ G' H' q e hs'.base rfl, fun s' G' H' σ' q => False.elim q, fun s' G' H' σ' q => False.elim q, fun r μ' G' H' v q e b hv => k r v μ' G' H' q e b hv⟩,
    fun e cls d s' G' H' σ' q e' hs' ho => x e cls d s'.μ G' H' q e' hs'.base ho⟩
end
section
variable {X : Cx} {W : WX} {Ξ : PhiX} {e e1 e2 : Expr} {es : List Expr} {st : Stmt} {rest sts sts2 body : List Stmt} {φ φ1 φ2 : PhiE} {τ : PhiT} {Φ Φ1 Φ2 : PhiS} {ψ : PhiA} {pos p : Pos}
theorem dex_of (h : PE X e (liftE X.K φ)) : PE X e (liftEX X.K X.mg W Ξ φ) := h.imp fun σ H Q ⟨G, U, s, R, hs, hr, k, _⟩ => ⟨G, U, s, R, hs, hr, k⟩
theorem dtx_of (h : PT X e (liftT X.K τ)) : PT X e (liftTX X.K X.mg W Ξ τ) := h.imp fun σ H Q ⟨G, U, s, R, hs, hr, k, _⟩ => ⟨G, U, s, R, hs, hr, k⟩
theorem dsx_of (h : PS X st (liftS X.K Φ)) : PS X st (liftSX X.K X.mg W Ξ Φ) := h.imp fun E σ H ⟨G, U, s, Δ, hs, hr, k, _⟩ => ⟨G, U, s, Δ, hs, hr, k⟩
theorem dssx_of (h : PSs X sts (liftS X.K Φ)) : PSs X sts (liftSX X.K X.mg W Ξ Φ) := h.imp fun E σ H ⟨G, U, s, Δ, hs, hr, k, _⟩ => ⟨G, U, s, Δ, hs, hr, k⟩
theorem dax_nil : PA X [] (liftAX X.K X.mg W Ξ aNil) := pa_nil.imp fun σ H Q ⟨G, U, s, R, hs, hr, k, _⟩ => k [] s G H [] hr (Same.refl _) hs rfl
theorem dax_cons (h : PE X e (liftEX X.K X.mg W Ξ φ)) (hr : PA X es (liftAX X.K X.mg W Ξ ψ)) (hs : starEach (e :: es) X.env = (false, eval e X.env) :: starEach es X.env := by rfl) : PA X (e :: es) (liftAX X.K X.mg W Ξ (aCons φ ψ)) :=
  (pa_cons h hr hs).imp fun σ H Q ⟨G, U, s, R, hs, hr, k, x⟩ => by
    refine ⟨G, U, s, _, hs, hr, fun r1 s1 G1 H1 v1 q1 e1 hs1 hv1 => ?_, x⟩
    obtain ⟨G1', e1', hs1', d1⟩ := frz_ok hs1 hv1
    exact ⟨G1', U, _, _, hs1', q1, fun ds s2 G2 H2 vs q2 e2 hs2 dvs => k _ s2 G2 H2 _ q2 ((e1.trans e1').trans e2) hs2 ⟨v1, vs, rfl, d1.mono e2, dvs⟩, x.mono (e1.trans e1')⟩
theorem dex_tup {k} (h : PA X es (liftAX X.K X.mg W Ξ ψ)) : PE X (.Tuple es k pos) (liftEX X.K X.mg W Ξ (eTup ψ)) :=
  (pe_tup h).imp fun σ H Q ⟨G, U, s, R, hs, hr, k, x⟩ => ⟨G, U, s, _, hs, hr, (fun ds s1 G1 H1 vs q1 e1 hs1 dv => ⟨dv.sz q1.1, fun p hp => by
    obtain ⟨h1, h2⟩ := hs1.newD (o := .tup vs) hp
    exact k _ s1 _ _ _ q1.2 (e1.trans h1) h2 ⟨p, vs, rfl, upd_same, dv.mono h1⟩⟩), x⟩
section
variable {k n : Nat} {f : Addr} {fd : FuncData} {ps : List Str} {F : FD} {FX : FDX} {x : Str} {ds0 : List D} {dvs : List V} {us : List Value}
/-- a call whose arguments may raise -/
theorem dex_callN (Fk : FnOk X.prog X.w X.K X.mg X.base CX0 k f fd ps (spD X.K n F)) (hr : Room k X.A) (hg : Gl X x) (hm : X.mg x = some (.ref f)) (hk : PySem.W.keepIn X.K (.ref f) = true) (hb : Binds X.K fd ps us) (hd : Vals dvs us) (hv : ∀ G, DVs X.K G ds0 dvs)
    (ha : PA X (e :: es) (liftAX X.K X.mg W Ξ ψ)) (hdb : (x == ("__debug__" : Str)) = false := by decide) (he : starEach (e :: es) X.env = (false, eval e X.env) :: starEach es X.env := by rfl) (hpl : (backTo pos (starEach es X.env)).any (·.1) = false := by rfl) :
    PE X (.Call (.Name x p) (e :: es) [] pos) (liftEX X.K X.mg W Ξ (eCall (fdn n F) ds0 ψ)) :=
  L2.PE.imp (t := tCall (spD X.K n (fdn n F)) dvs E0 (liftAX X.K X.mg W Ξ ψ)) (pe_call (by rw [spD_n]; exact Fk) hr hg hm hk hb hd pass0 ha hdb he hpl) fun σ H Q ⟨G, U, s, R, hs, hr, k, x⟩ => by
    refine ⟨G, U, s, _, hs, hr, fun ds s1 G1 H1 vs q1 e1 hs1 dv => ⟨G1, _, ds ++ ds0, s1.μ, _, hs1.out, dv.app (hv G1), q1.1, q1, fun r v μ' G' H' q e b hv' => ?_⟩, x⟩
    exact k r _ G' H' v q (e1.trans e) (hs1.back e b) (hv'.rs (ρ := s1.ρ) hs1)
/-- a call that may raise -/
def eCallX (F : FDX) (Ξ : PhiX) (ψ : PhiA) : PhiE := fun s R => ψ s fun ds s1 => F ds s1.μ (fun r μ' => R r ⟨s1.ρ, μ'⟩) (fun e μ' => Ξ e ⟨s1.ρ, μ'⟩)
theorem dex_call (tk : Takes X W) (Fk : FnOk X.prog X.w X.K X.mg X.base (L2.CX X.prog X.w) k f fd ps (spX X.K X.mg n FX)) (hr : Room k X.A) (hg : Gl X x) (hm : X.mg x = some (.ref f)) (hk : PySem.W.keepIn X.K (.ref f) = true) (hb : Binds X.K fd ps [])
    (ha : PA X (e :: es) (liftAX X.K X.mg W Ξ ψ)) (hdb : (x == ("__debug__" : Str)) = false := by decide) (he : starEach (e :: es) X.env = (false, eval e X.env) :: starEach es X.env := by rfl) (hpl : (backTo pos (starEach es X.env)).any (·.1) = false := by rfl) :
    PE X (.Call (.Name x p) (e :: es) [] pos) (liftEX X.K X.mg W Ξ (eCallX (fdnX n FX) Ξ ψ)) :=
  L2.PE.imp (t := tCallS (spX X.K X.mg n (fdnX n FX)) (WE W) (liftAX X.K X.mg W Ξ ψ)) (pe_callS (by rw [spX_n]; exact Fk) hr hg hm hk hb (fun σ => passAt tk σ) ha hdb he hpl) fun σ H Q ⟨G, U, s, R, hs, hr, k, x⟩ => by
    refine ⟨G, U, s, _, hs, hr, fun ds s1 G1 H1 vs q1 e1 hs1 dv => ⟨G1, _, ds, s1.μ, _, _, hs1.out, dv, q1.1, q1, fun r v μ' G' H' q e b hv' => ?_, fun y cls d μ' G' H' q e b ho => ?_⟩, x⟩
    · exact k r _ G' H' v q (e1.trans e) (hs1.back e b) (hv'.rs (ρ := s1.ρ) hs1)
    · exact x y cls d ⟨s1.ρ, μ'⟩ G' H' σ q (e1.trans e) (hs1.back e b) ho
/-- .. and does not, here: in a def that lets nothing out -/
theorem takes_no {X : Cx} : Takes X (fun _ _ _ _ => False) := fun _ _ ⟨_, _, _, _, _, _, _, _, _, _, _, _, _, _, _, _, w⟩ => w.elim
def noX : PhiX := fun _ _ => False
theorem de_callX (Fk : FnOk X.prog X.w X.K X.mg X.base (L2.CX X.prog X.w) k f fd ps (spX X.K X.mg n FX)) (hr : Room k X.A) (hg : Gl X x) (hm : X.mg x = some (.ref f)) (hk : PySem.W.keepIn X.K (.ref f) = true) (hb : Binds X.K fd ps [])
    (ha : PA X (e :: es) (liftA X.K ψ)) (hdb : (x == ("__debug__" : Str)) = false := by decide) (he : starEach (e :: es) X.env = (false, eval e X.env) :: starEach es X.env := by rfl) (hpl : (backTo pos (starEach es X.env)).any (·.1) = false := by rfl) :
    PE X (.Call (.Name x p) (e :: es) [] pos) (liftE X.K (eCallX (fdnX n FX) noX ψ)) :=
  (dex_call (W := fun _ _ _ _ => False) (Ξ := noX) (ψ := ψ) takes_no Fk hr hg hm hk hb (ha.imp fun σ H Q ⟨G, U, s, R, hs, hr, k, _⟩ => ⟨G, U, s, R, hs, hr, k⟩) hdb he hpl).imp fun σ H Q ⟨G, U, s, R, hs, hr, k⟩ => ⟨G, U, s, R, hs, hr, k, fun _ _ _ _ _ _ _ q => q.elim⟩
end
theorem dex_if {c : Expr} (hc : PT X c (liftTX X.K X.mg W Ξ τ)) (h1 : PE X e1 (liftEX X.K X.mg W Ξ φ1)) (h2 : PE X e2 (liftEX X.K X.mg W Ξ φ2)) : PE X (.IfExp c e1 e2 pos) (liftEX X.K X.mg W Ξ (eIf τ φ1 φ2)) :=
  (pe_ifExp hc h1 h2).imp fun σ H Q ⟨G, U, s, R, hs, hr, k, x⟩ => by
    refine ⟨G, U, s, _, hs, hr, fun c s1 G1 H1 q1 e1 hs1 => ?_, x⟩
    cases c with
    | true => exact ⟨G1, U, s1, R, hs1, q1, fun r s' G' H' v q e hs' => k r s' G' H' v q (e1.trans e) hs', x.mono e1⟩
    | false => exact ⟨G1, U, s1, R, hs1, q1, fun r s' G' H' v q e hs' => k r s' G' H' v q (e1.trans e) hs', x.mono e1⟩
/-! statements -/
theorem dsx_nil : PSs X [] (liftSX X.K X.mg W Ξ sNil) := dssx_of ds_nil
theorem dsx_one (h : PS X st (liftSX X.K X.mg W Ξ Φ)) : PSs X [st] (liftSX X.K X.mg W Ξ Φ) := pss_one h
theorem dsx_cons (h : PS X st (liftSX X.K X.mg W Ξ Φ1)) (h2 : PSs X rest (liftSX X.K X.mg W Ξ Φ2)) : PSs X (st :: rest) (liftSX X.K X.mg W Ξ (sSeq Φ1 Φ2)) :=
  (pss_cons h h2).imp fun E σ H ⟨G, U, s, Δ, hs, hr, k, x⟩ => ⟨G, U, s, _, hs, hr, ⟨fun s' G' H' σ' q e hs' => ⟨G', U, s', Δ, hs', q, k.mono e, x.mono e⟩, k.bk, k.ct, k.rt⟩, x⟩
theorem dsx_expr (h : PE X e (liftEX X.K X.mg W Ξ φ)) (hs : swapsWith e none pos.line X.env = pure false := by rfl) : PS X (.Expr e pos) (liftSX X.K X.mg W Ξ (sDrop φ)) :=
  (ps_expr h hs).imp fun E σ H ⟨G, U, s, Δ, hs, hr, k, x⟩ => ⟨G, U, s, _, hs, hr, (fun r s' G' H' v q e hs' _ => k.nx s' G' H' σ q e hs'), x⟩
theorem dsx_ret (h : PE X e (liftEX X.K X.mg W Ξ φ)) : PS X (.Return (some e) pos) (liftSX X.K X.mg W Ξ (sRet φ)) :=
  (ps_ret h).imp fun E σ H ⟨G, U, s, Δ, hs, hr, k, x⟩ => ⟨G, U, s, _, hs, hr, (fun r s' G' H' v q e hs' hv => by
    have own : ∀ {r : Sl}, r.own = true → Δ.rt r s'.μ → RsOk X.K G' U H' σ s' v r → E.rt v H' := fun {r} ho q hv => by
      obtain ⟨p, e1, h1, h2, h3, h4, h5⟩ := (RsOk.own ho).mp hv
      exact k.rt _ _ G' H' v q e hs'.base ((Res.own ho).mpr ⟨p, e1, h1, h2, h3, h4⟩)
    cases r with
    | d d => exact k.rt _ _ G' H' v q e hs'.base hv
    | no => exact hv.elim
    | l ds => exact own rfl q hv
    | k ks ds => exact own rfl q hv
    | t ks ds => exact own rfl q hv
    | b i =>
      obtain ⟨ho, hv⟩ := hv
      obtain ⟨a, e1, oa, h1, h2, h3, h4⟩ := hs'.ownAt ho
      rw [hv] at e1
      injection e1 with e1
      injection e1 with e1
      exact k.rt _ _ G' H' v q e hs'.base ((Res.own ho).mpr ⟨a, e1, h1, h2, h3, h4⟩)), x⟩
theorem dsx_set {i : Nat} {x : Str} {pos' : Pos} (hN : X.N.Nodup) (hi : X.N[i]? = some x) (hx : Loc X.env.scope x) (h : PE X e (liftEX X.K X.mg W Ξ φ)) (hs : swapsWith e (some (.Name x pos')) pos.line X.env = pure false := by rfl)
    (hf : X.fn x = true ∨ X.env.scope.names.lookup x = some .local := by first | exact .inl rfl | exact .inr rfl | assumption) : PS X (.Assign [.Name x pos'] e pos) (liftSX X.K X.mg W Ξ (sSet i φ)) :=
  (ps_set (i := i) hN hi hx h hs hf).imp fun E σ H ⟨G, U, s, Δ, hs, hr, k, x⟩ => ⟨G, U, s, _, hs, hr, (fun r s1 G1 H1 v q1 e1 hs1 hv1 => by
    obtain ⟨G', s', e', hs', q⟩ := st1_ok hs1 hv1 q1
    exact k.nx s' G' H1 _ q (e1.trans e') hs'), x⟩
theorem dsx_if (hc : PT X e (liftTX X.K X.mg W Ξ τ)) (h1 : PSs X sts (liftSX X.K X.mg W Ξ Φ1)) (h2 : PSs X sts2 (liftSX X.K X.mg W Ξ Φ2)) : PS X (.If e sts sts2 pos) (liftSX X.K X.mg W Ξ (sIf τ Φ1 Φ2)) :=
  (ps_if hc h1 h2).imp fun E σ H ⟨G, U, s, Δ, hs, hr, k, x⟩ => by
    refine ⟨G, U, s, _, hs, hr, fun c s1 G1 H1 q1 e1 hs1 => ?_, x⟩
    cases c with
    | true => exact ⟨G1, U, s1, Δ, hs1, q1, k.mono e1, x.mono e1⟩
    | false => exact ⟨G1, U, s1, Δ, hs1, q1, k.mono e1, x.mono e1⟩
/-- raise C('..') -/
def sRaise (Ξ : PhiX) (c : Str) : PhiS := fun _ s => Ξ ⟨c, []⟩ s
theorem dsx_raise {x m : Str} {j : Nat} {p2 : Pos} {C : Addr} {pos' : Pos} (hc : X.calm = true) (tk : Takes X W) (q : PySem.W.excIn X.K C [.type "ValueError", .type "Exception", .type "BaseException", .type "object"] "ValueError.__new__" = true) (gC : X.mg x = some (.ref C)) (kC : PySem.W.keepIn X.K (.ref C) = true)
    (h1 : PySem.W.subIn X.K (.ref C) (.type "BaseException") = some true) (h2 : PySem.W.typeIn X.K (.ref C) = some (.type "type")) (hg : Gl X x) (hdb : (x == ("__debug__" : Str)) = false := by decide) :
    PS X (.Raise (some (.Call (.Name x p) [.Constant (.str m) j p2] [] pos')) none pos) (liftSX X.K X.mg W Ξ (sRaise Ξ x)) :=
  (ps_raise hc tk (pmk_own PySem.F.excBase_ValueError q gC kC (raises_own h1 h2) hg hdb)).imp fun E σ H ⟨G, U, s, Δ, hs, hr, k, y⟩ => y ⟨x, []⟩ _ none s G H σ hr (Same.refl _) hs ⟨C, gC, rfl, .inl ⟨rfl, rfl⟩⟩
/-! loops -/
theorem dsx_for {tg : Expr} {γ : PhiG} {π : PhiI} {ws : List Nat} (hp : PassesOwn (model X.prog X.w) X.A X.env X.xe) (hc : X.calm = true) (hi : PI X tg e (liftI X.K π)) (hg : PG X tg (liftG X.K ws γ)) (hb : PSs X body (liftSX X.K X.mg W Ξ Φ)) (hs : ∀ x, foldedSetIterable e X.env x = pure x := by intro _; rfl) :
    PS X (.For tg e body [] pos) (liftSX X.K X.mg W Ξ (sFor π γ Φ)) :=
  (ps_for hp hc hi hg hb hs).imp fun E σ H ⟨G, U, s, Δ, hs, hr, k, xx⟩ => by
    refine ⟨G, U, s, _, hs, hr, fun ds s1 G1 H1 J q1 e1 hs1 gv => ?_⟩
    refine ⟨fun i m σ' H' => ∃ s' G', m = ds.length - i ∧ i ≤ ds.length ∧ Same G1 G' ∧ St X.K G' U H' σ' s' ∧ forL γ Φ Δ (ds.drop i) s', ⟨ds.length, s1, G1, by simp, Nat.zero_le _, Same.refl _, hs1, by simpa using q1⟩, ?_⟩
    rintro i m σ' H' ⟨s', G', rfl, hi', e', hs', q⟩
    by_cases hlt : i < ds.length
    · rw [List.drop_eq_getElem_cons hlt] at q
      refine .inr ⟨gv.go i H' G' U s'.μ hlt e' hs'.base, fun σ2 H2 => ∃ s2 G2, Same G1 G2 ∧ St X.K G2 U H2 σ2 s2 ∧ forL γ Φ Δ (ds.drop (i + 1)) s2, fun σ2 H2 ⟨s2, G2, e2, hs2, q2⟩ => ⟨ds.length - (i + 1), by omega, s2, G2, rfl, hlt, e2, hs2, q2⟩, fun x H2 y => ?_⟩
      obtain ⟨G2, e2, dv, st⟩ := gv.yld i H' G' U s'.μ x H2 hlt e' hs'.base y
      refine ⟨G2, U, s', ds[i], _, st σ' s' rfl hs', dv, q, fun s3 σ3 G3 H3 q3 e3 hs3 _ => ?_⟩
      have e13 : Same G1 G3 := (e'.trans e2).trans e3
      refine ⟨G3, U, s3, _, hs3, q3, ⟨fun s4 G4 H4 σ4 q4 e4 hs4 => ⟨s4, G4, e13.trans e4, hs4, q4⟩, fun s4 G4 H4 σ4 q4 e4 hs4 => k.nx s4 G4 H4 σ4 q4 ((e1.trans e13).trans e4) hs4, fun s4 G4 H4 σ4 q4 e4 hs4 => ⟨s4, G4, e13.trans e4, hs4, q4⟩, fun r μ' G4 H4 v q4 e4 b hv => k.rt r μ' G4 H4 v q4 ((e1.trans e13).trans e4) b hv⟩, xx.mono (e1.trans e13)⟩
    · have : i = ds.length := by omega
      subst this
      rw [List.drop_length] at q
      exact .inl ⟨gv.stop H' G' U s'.μ e' hs'.base, k.nx s' G' H' σ' q (e1.trans e') hs'⟩
theorem dsx_while (hp : PassesOwn (model X.prog X.w) X.A X.env X.xe) (hc : PT X e (liftTX X.K X.mg W Ξ τ)) (hb : PSs X body (liftSX X.K X.mg W Ξ Φ)) : PS X (.While e body [] pos) (liftSX X.K X.mg W Ξ (sWhile τ Φ)) :=
  (ps_while hp hc hb).imp fun E σ H ⟨G, U, s, Δ, hs, ⟨n, hr⟩, k, xx⟩ => by
    refine ⟨fun m σ' H' => ∃ s' G', Same G G' ∧ St X.K G' U H' σ' s' ∧ whN τ Φ Δ m s', ⟨n, s, G, Same.refl _, hs, hr⟩, ?_⟩
    rintro m σ' H' ⟨s', G', e', hs', q⟩
    cases m with
    | zero => exact q.elim
    | succ m =>
      refine ⟨G', U, s', _, hs', q, (fun b s1 G1 H1 q1 e1 hs1 => ?_), xx.mono e'⟩
      cases b with
      | true =>
        refine ⟨fun σ2 H2 => ∃ s2 G2, Same G G2 ∧ St X.K G2 U H2 σ2 s2 ∧ whN τ Φ Δ m s2, fun σ2 H2 ⟨s2, G2, e2, hs2, q2⟩ => ⟨m, Nat.lt_succ_self _, s2, G2, e2, hs2, q2⟩, G1, U, s1, _, hs1, q1, ?_, xx.mono (e'.trans e1)⟩
        have eg := e'.trans e1
        exact ⟨fun s4 G4 H4 σ4 q4 e4 hs4 => ⟨s4, G4, eg.trans e4, hs4, q4⟩, fun s4 G4 H4 σ4 q4 e4 hs4 => k.nx s4 G4 H4 σ4 q4 (eg.trans e4) hs4, fun s4 G4 H4 σ4 q4 e4 hs4 => ⟨s4, G4, eg.trans e4, hs4, q4⟩, fun r μ' G4 H4 v q4 e4 b hv => k.rt r μ' G4 H4 v q4 (eg.trans e4) b hv⟩
      | false => exact k.nx s1 G1 H1 _ q1 (e'.trans e1) hs1
end
end DL
/-! DL21: errors caught: try .. except X as n, except X, isinstance of what is caught. -/
namespace DL
open PySem PySem.Spec PyProof.Rows L2
def AllL (p : Str → Bool → Prop) : List (Str × Bool) → Prop
  | [] => True
  | q :: r => p q.1 q.2 ∧ AllL p r
theorem AllL.get {p : Str → Bool → Prop} : ∀ {l : List (Str × Bool)}, AllL p l → ∀ y b, l.lookup y = some b → p y b
  | [], _, y, b, h => by cases h
  | q :: r, h, y, b, e => by
    rw [List.lookup_cons] at e
    split at e
    · rename_i hq
      cases e
      rw [beq_iff_eq.mp hq]
      exact h.1
    · exact h.2.get y b e
theorem at_cls {mg : Mgl} {x : Str} {A : Addr} {P : Addr → Prop} (h : mg x = some (.ref A)) (p : P A) : ∀ C, mg x = some (.ref C) → P C := fun C e => by
  rw [h] at e
  injection e with e
  injection e with e
  exact e ▸ p
theorem pss_ex {X : Cx} {α : Type} {sts : List Stmt} {p : α → Prop} {t : α → TS} (h : ∀ x, p x → PSs X sts (t x)) : PSs X sts (fun E σ H => ∃ x, p x ∧ t x E σ H) := ⟨fun pins s σ H D I ⟨x, hp, q⟩ => (h x hp).run pins s σ H D I q⟩
theorem St.unset {K : PySem.W.Frag} {G U H : Hp} {σ : L2.St} {s : S} {i : Nat} (h : St K G U H σ s) : St K G U H (σ.set i none) (s.set i .no) := St.into (vs := [i]) h
/-- what is done with an error of the body -/
def tryX (i : Nat) (tb : List (Str × Bool)) (su : Ex → Addr → PhiS) (Ξ : PhiX) (Δ : DE) : PhiX := fun e s1 => match tb.lookup e.c with
  | some true => e.fs = [] ∧ ∀ a, su e a { nx := fun s2 => Δ.nx (s2.set i .no), rt := Δ.rt, bk := fun s2 => Δ.bk (s2.set i .no), ct := fun s2 => Δ.ct (s2.set i .no) } (s1.set i (.d (.ref a)))
  | some false => Ξ e s1
  | none => False
def sTryAs (i : Nat) (tb : List (Str × Bool)) (body : PhiX → PhiS) (su : Ex → Addr → PhiS) (Ξ : PhiX) : PhiS := fun Δ s => body (tryX i tb su Ξ Δ) Δ s
section
variable {X : Cx} {W : WX} {Ξ : PhiX} {pos pos' np : Pos} {x n : Str} {i : Nat} {body suite : List Stmt} {b₀ : Stmt} {c : Value} {tb : List (Str × Bool)} {Φ : PhiX → PhiS} {Φs : Ex → Addr → PhiS}
theorem dsx_try_as (hs : X.stack = X.env :: X.outer) (hf : X.env.frame = some X.env.locals) (hN : X.N.Nodup) (hi : X.N[i]? = some n) (hln : X.env.kindOf n = some .local) (hc : Names X x c) (tk : Takes X W)
    (hm : AllL (fun y b => ∀ C, X.mg y = some (.ref C) → PySem.W.exmOne X.K (.ref C) c = some b) tb)
    (hb : ∀ (Ξ' : PhiX) (W' : WX) (pn : List (Addr × Obj)) (xe : Value → Shared → Prop), Takes (X.tr pn xe) W' → PassesOwn (model X.prog X.w) X.A X.env xe → PSs (X.tr pn xe) body (liftSX X.K X.mg W' Ξ' (Φ Ξ')))
    (hsu : ∀ (e : Ex) (a : Addr) (oe : Obj) (pn : List (Addr × Obj)) (C : Addr), X.mg e.c = some (.ref C) → Zc (.ref C) none oe → (∃ vs, oe.data = .fields vs) → PSs (X.suite a ((a, oe) :: pn)) (b₀ :: suite) (liftS X.K (Φs e a))) :
    PS X (.Try body [.ExceptHandler (some (.Name x np)) (some n) (b₀ :: suite) pos'] [] [] pos) (liftSX X.K X.mg W Ξ (sTryAs i tb Φ Φs Ξ)) := by
  refine (ps_try_as (tb := fun W' E σ H => ∃ Ξ', True ∧ liftSX X.K X.mg W' Ξ' (Φ Ξ') E σ H) (ts := fun a cls d E σ H => ∃ y : Ex × Addr, (X.mg y.1.c = some (.ref y.2) ∧ cls = .ref y.2 ∧ d = none) ∧ liftS X.K (Φs y.1 a) E σ H)
    hs hf hN hi hln hc tk (fun W' pn xe tk' hp => pss_ex fun Ξ' _ => hb Ξ' W' pn xe tk' hp) fun a oe cls d pn hz hv => pss_ex fun y hy => ?_).imp fun E σ H ⟨G, U, s, Δ, hst, hr, k, y⟩ => ?_
  · obtain ⟨h1, rfl, rfl⟩ := hy
    exact hsu y.1 a oe pn y.2 h1 hz hv
  · refine ⟨_, trivial, G, U, s, Δ, hst, hr, k, fun e cls d s' G' H' σ' q e' hs2 ho => ?_⟩
    obtain ⟨C, mC, rfl, hd⟩ := ho
    unfold tryX at q
    cases ht : tb.lookup e.c with
    | none => rw [ht] at q; exact q.elim
    | some b =>
      rw [ht] at q
      cases b with
      | true =>
        obtain ⟨hfs, q⟩ := q
        have hd : d = none := by
          rcases hd with ⟨_, h⟩ | ⟨h, _⟩
          · exact h
          · exact absurd hfs h
        refine ⟨true, hm.get _ _ ht C mC, fun _ a ha => ⟨(e, C), ⟨mC, rfl, hd⟩, G', U, _, _, hs2.setD (d := .ref a) rfl, q a, ⟨fun s4 G4 H4 σ4 q4 e4 hs4 => k.nx _ G4 H4 _ q4 (e'.trans e4) hs4.unset, fun s4 G4 H4 σ4 q4 e4 hs4 => k.bk _ G4 H4 _ q4 (e'.trans e4) hs4.unset, fun s4 G4 H4 σ4 q4 e4 hs4 => k.ct _ G4 H4 _ q4 (e'.trans e4) hs4.unset, fun r μ' G4 H4 v q4 e4 b hv => k.rt r μ' G4 H4 v q4 (e'.trans e4) b hv⟩⟩, fun z => by cases z⟩
      | false => exact ⟨false, hm.get _ _ ht C mC, (fun z => by cases z), fun _ => y e _ d s' G' H' σ' q e' hs2 ⟨C, mC, rfl, hd⟩⟩
/-- .. in a def that lets nothing out -/
theorem ds_try_as (hs : X.stack = X.env :: X.outer) (hf : X.env.frame = some X.env.locals) (hN : X.N.Nodup) (hi : X.N[i]? = some n) (hln : X.env.kindOf n = some .local) (hc : Names X x c)
    (hm : AllL (fun y b => ∀ C, X.mg y = some (.ref C) → PySem.W.exmOne X.K (.ref C) c = some b) tb)
    (hb : ∀ (Ξ' : PhiX) (W' : WX) (pn : List (Addr × Obj)) (xe : Value → Shared → Prop), Takes (X.tr pn xe) W' → PassesOwn (model X.prog X.w) X.A X.env xe → PSs (X.tr pn xe) body (liftSX X.K X.mg W' Ξ' (Φ Ξ')))
    (hsu : ∀ (e : Ex) (a : Addr) (oe : Obj) (pn : List (Addr × Obj)) (C : Addr), X.mg e.c = some (.ref C) → Zc (.ref C) none oe → (∃ vs, oe.data = .fields vs) → PSs (X.suite a ((a, oe) :: pn)) (b₀ :: suite) (liftS X.K (Φs e a))) :
    PS X (.Try body [.ExceptHandler (some (.Name x np)) (some n) (b₀ :: suite) pos'] [] [] pos) (liftS X.K (sTryAs i tb Φ Φs noX)) :=
  (dsx_try_as (W := fun _ _ _ _ => False) (Ξ := noX) hs hf hN hi hln hc takes_no hm hb hsu).imp fun E σ H ⟨G, U, s, Δ, hst, hr, k⟩ => ⟨G, U, s, Δ, hst, hr, k, fun _ _ _ _ _ _ _ q => q.elim⟩
/-! several clauses without names -/
def manyX (Ξ : PhiX) (Δ : DE) : List (List (Str × Bool) × (Ex → PhiS)) → PhiX
  | [] => Ξ
  | (tb, su) :: r => fun e s1 => match tb.lookup e.c with
    | some true => su e Δ s1
    | some false => manyX Ξ Δ r e s1
    | none => False
def sTryMany (l : List (List (Str × Bool) × (Ex → PhiS))) (body : PhiX → PhiS) (Ξ : PhiX) : PhiS := fun Δ s => body (manyX Ξ Δ l) Δ s
/-- the clauses as they stand -/
inductive ClOk (X : Cx) : List ExceptHandler → List (List (Str × Bool) × (Ex → PhiS)) → Prop
  | nil : ClOk X [] []
  | cons {x : Str} {c : Value} {b₀ : Stmt} {suite : List Stmt} {np pos' : Pos} {hds : List ExceptHandler} {tb : List (Str × Bool)} {su : Ex → PhiS} {l : List (List (Str × Bool) × (Ex → PhiS))} (hc : Names X x c)
      (hm : AllL (fun y b => ∀ C, X.mg y = some (.ref C) → PySem.W.exmOne X.K (.ref C) c = some b) tb)
      (hsu : ∀ (e : Ex) (a : Addr) (oe : Obj) (pn : List (Addr × Obj)), PSs (X.suite a ((a, oe) :: pn)) (b₀ :: suite) (liftS X.K (su e))) (r : ClOk X hds l) :
      ClOk X (.ExceptHandler (some (.Name x np)) none (b₀ :: suite) pos' :: hds) ((tb, su) :: l)
def clTs (K : PySem.W.Frag) (mg : Mgl) (su : Ex → PhiS) : Addr → Value → Option Addr → TS := fun _ _ _ E σ H => ∃ e : Ex, True ∧ liftS K (su e) E σ H
theorem clok_hds {X : Cx} : ∀ {hds : List ExceptHandler} {l : List (List (Str × Bool) × (Ex → PhiS))}, ClOk X hds l → ∃ cs : List Value, HdsOk X hds (cs.zip (l.map fun p => clTs X.K X.mg p.2)) ∧ cs.length = l.length ∧
    ∀ (W : WX) (Ξ : PhiX) (Δ : DE) (E : Ends) (G U : Hp), EOk X.K G U Δ E → XOk X.K X.mg G U Ξ W → XOk X.K X.mg G U (manyX Ξ Δ l) (wMany X.K W E (cs.zip (l.map fun p => clTs X.K X.mg p.2)))
  | _, _, .nil => ⟨[], .nil, rfl, fun W Ξ Δ E G U k y => y⟩
  | _, _, .cons (c := c) (tb := tb) (su := su) hc hm hsu r => by
    obtain ⟨cs, h1, h2, h3⟩ := clok_hds r
    refine ⟨c :: cs, .cons hc (fun a oe cls d pn hz hv => pss_ex fun e _ => hsu e a oe pn) h1, by simp [h2], fun W Ξ Δ E G U k y => ?_⟩
    intro e cls d s' G' H' σ' q e' hs2 ho
    obtain ⟨C, mC, rfl, hd⟩ := ho
    show ∃ b, PySem.W.exmOne X.K (.ref C) c = some b ∧ _
    simp only [manyX] at q
    cases ht : tb.lookup e.c with
    | none => rw [ht] at q; exact q.elim
    | some b =>
      rw [ht] at q
      cases b with
      | true => exact ⟨true, hm.get _ _ ht C mC, (fun _ a ha => ⟨e, trivial, G', U, s', Δ, hs2, q, k.mono e'⟩), fun z => by cases z⟩
      | false => exact ⟨false, hm.get _ _ ht C mC, (fun z => by cases z), fun _ => h3 W Ξ Δ E G U k y e _ d s' G' H' σ' q e' hs2 ⟨C, mC, rfl, hd⟩⟩
theorem dsx_try_many {h₀ : ExceptHandler} {hds : List ExceptHandler} {l : List (List (Str × Bool) × (Ex → PhiS))} (hs : X.stack = X.env :: X.outer) (hf : X.env.frame = some X.env.locals) (tk : Takes X W)
    (hb : ∀ (Ξ' : PhiX) (W' : WX) (pn : List (Addr × Obj)) (xe : Value → Shared → Prop), Takes (X.tr pn xe) W' → PassesOwn (model X.prog X.w) X.A X.env xe → PSs (X.tr pn xe) body (liftSX X.K X.mg W' Ξ' (Φ Ξ')))
    (hh : ClOk X (h₀ :: hds) l) : PS X (.Try body (h₀ :: hds) [] [] pos) (liftSX X.K X.mg W Ξ (sTryMany l Φ Ξ)) := by
  obtain ⟨cs, h1, h2, h3⟩ := clok_hds hh
  refine (ps_try_many (tb := fun W' E σ H => ∃ Ξ', True ∧ liftSX X.K X.mg W' Ξ' (Φ Ξ') E σ H) hs hf tk (fun W' pn xe tk' hp => pss_ex fun Ξ' _ => hb Ξ' W' pn xe tk' hp) h1).imp fun E σ H ⟨G, U, s, Δ, hst, hr, k, y⟩ => ?_
  exact ⟨_, trivial, G, U, s, Δ, hst, hr, k, h3 W Ξ Δ E G U k y⟩
theorem ds_try_many {h₀ : ExceptHandler} {hds : List ExceptHandler} {l : List (List (Str × Bool) × (Ex → PhiS))} (hs : X.stack = X.env :: X.outer) (hf : X.env.frame = some X.env.locals)
    (hb : ∀ (Ξ' : PhiX) (W' : WX) (pn : List (Addr × Obj)) (xe : Value → Shared → Prop), Takes (X.tr pn xe) W' → PassesOwn (model X.prog X.w) X.A X.env xe → PSs (X.tr pn xe) body (liftSX X.K X.mg W' Ξ' (Φ Ξ')))
    (hh : ClOk X (h₀ :: hds) l) : PS X (.Try body (h₀ :: hds) [] [] pos) (liftS X.K (sTryMany l Φ noX)) :=
  (dsx_try_many (W := fun _ _ _ _ => False) (Ξ := noX) hs hf takes_no hb hh).imp fun E σ H ⟨G, U, s, Δ, hst, hr, k⟩ => ⟨G, U, s, Δ, hst, hr, k, fun _ _ _ _ _ _ _ q => q.elim⟩
/-! isinstance(n, C), n the error in hand -/
def eIsE (e : Ex) (a : Addr) (i : Nat) (tb : List (Str × Bool)) : PhiE := fun s R => get s.ρ i = .d (.ref a) ∧ match tb.lookup e.c with
  | some b => R (.d (.bl b)) s
  | none => False
theorem de_isE {e : Ex} {a C : Addr} {oe : Obj} {pn : List (Addr × Obj)} {x : Str} {nm ce : Expr} {p : Pos} {cV : V} {cv : Value} (mC : X.mg e.c = some (.ref C)) (hz : Zc (.ref C) none oe) (hv : ∃ vs, oe.data = .fields vs)
    (hk : AllL (fun y b => ∀ D, X.mg y = some (.ref D) → ExcC X.K D ∧ PySem.W.kitOne X.K (.ref D) cv = some b) tb) (hcv : ∀ u, RelV cV u → u = cv) (hx : x = "isinstance") (hg : Gl (X.suite a ((a, oe) :: pn)) x) (hm : X.mg x = none)
    (he : PE (X.suite a ((a, oe) :: pn)) nm (tVar i)) (hc : PE (X.suite a ((a, oe) :: pn)) ce (tC cV))
    (hs : starEach [nm, ce] X.env = [(false, eval nm X.env), (false, eval ce X.env)] := by rfl) (hs2 : starEach [ce] X.env = [(false, eval ce X.env)] := by rfl) : PE (X.suite a ((a, oe) :: pn)) (.Call (.Name x p) [nm, ce] [] pos) (liftE X.K (eIsE e a i tb)) := by
  subst hx
  by_cases hC : ExcC X.K C
  · refine (pe_callB (call_isE hC hz hv) hg hm boot_isinstance (pa_cons he (pa_cons hc pa_nil hs2) (by rw [hs2]; exact hs)) (by decide) (by decide) (by rw [hs2]; exact hs) (by
      show (backTo pos (starEach [ce] X.env)).any (·.1) = false
      rw [hs2]; rfl)).imp fun σ H Q ⟨G, U, s, R, hst, ⟨h1, h2⟩, k⟩ => ?_
    have hsl := hst.slot i
    rw [h1] at hsl
    obtain ⟨v, e1, e2⟩ := hsl
    have e2 : v = .ref a := e2
    subst e2
    cases ht : tb.lookup e.c with
    | none => rw [ht] at h2; exact h2.elim
    | some b =>
      rw [ht] at h2
      exact ⟨.ref a, of_join e1, cV, cv, b, rfl, hcv, (hk.get _ _ ht C mC).2, k _ s G H _ h2 (Same.refl _) hst rfl⟩
  · refine ⟨fun pins s σ H Q I ⟨G, U, s', R, hst, ⟨h1, h2⟩, k⟩ => ?_⟩
    cases ht : tb.lookup e.c with
    | none => rw [ht] at h2; exact h2.elim
    | some b => exact absurd (hk.get _ _ ht C mC).1 hC
end
section
variable {ρ : List Sl} {μ : Mu} {i : Nat} {R : Sl → S → Prop} {Ξ : PhiX} {Δ : DE} {e : Ex} {a : Addr} {tb : List (Str × Bool)} {x : Str} {F : FDX} {ψ : PhiA} {Φ : PhiX → PhiS} {Φs : Ex → Addr → PhiS} {d : D} {ds : List D} {n : Nat} {RM : Sl → Mu → Prop} {XM : MuX} {l : List (List (Str × Bool) × (Ex → PhiS))}
theorem zRaise : sRaise Ξ x Δ ⟨ρ, μ⟩ = Ξ ⟨x, []⟩ ⟨ρ, μ⟩ := propext Iff.rfl
theorem zCallX : eCallX F Ξ ψ ⟨ρ, μ⟩ R = ψ ⟨ρ, μ⟩ fun ds s1 => F ds s1.μ (fun r μ' => R r ⟨s1.ρ, μ'⟩) (fun e μ' => Ξ e ⟨s1.ρ, μ'⟩) := propext Iff.rfl
theorem zfdnX : fdnX n F (d :: ds) μ RM XM = ((d :: ds).length = n ∧ F (d :: ds) μ RM XM) := propext Iff.rfl
theorem zTryAs : sTryAs i tb Φ Φs Ξ Δ ⟨ρ, μ⟩ = Φ (tryX i tb Φs Ξ Δ) Δ ⟨ρ, μ⟩ := propext Iff.rfl
theorem zTryMany : sTryMany l Φ Ξ Δ ⟨ρ, μ⟩ = Φ (manyX Ξ Δ l) Δ ⟨ρ, μ⟩ := propext Iff.rfl
theorem zIsE : eIsE e a i tb ⟨ρ, μ⟩ R = (get ρ i = .d (.ref a) ∧ match tb.lookup e.c with
  | some b => R (.d (.bl b)) ⟨ρ, μ⟩
  | none => False) := propext Iff.rfl
theorem ztryX : tryX i tb Φs Ξ Δ e ⟨ρ, μ⟩ = (match tb.lookup e.c with
  | some true => e.fs = [] ∧ ∀ a, Φs e a { nx := fun s2 => Δ.nx (s2.set i .no), rt := Δ.rt, bk := fun s2 => Δ.bk (s2.set i .no), ct := fun s2 => Δ.ct (s2.set i .no) } ⟨put ρ i (.d (.ref a)), μ⟩
  | some false => Ξ e ⟨ρ, μ⟩
  | none => False) := propext Iff.rfl
end
end DL
/-! DL22: another drawing machine's steps (the pot), read once. -/
namespace DL
open PySem PySem.Spec PyProof.Rows L2
abbrev bigM : Int := 2305843009213693951
def spMixed (K : PySem.W.Frag) : Sp := fun vs H Q _ => ∃ (a c : Addr) (cell p g x : Int), vs = [.ref a, .int cell] ∧ H a = some (.lst [.ref c, .int p, .int g, .int x]) ∧ (0 ≤ x ∧ x < bigM) ∧
  ∀ y, 0 ≤ y → y < bigM → Q (.int y) (upd H a (.lst [.ref c, .int p, .int g, .int y]))
def tMixedT (K : PySem.W.Frag) : TS :=
  tSeq (tAsg (tOp rModI (tI1 (tOp rAddI (tOp rAddI (tOp rMulI (tIxD K 3) (tIxD K 3)) (tVar 1)) (tC (.int 104729)))) (tC (.int bigM))) (gName 2))
    (tSeq (tAsg (tOp rModI (tI1 (tOp rAddI (tOp rMulI (tVar 2) (tVar 2)) (tC (.int 48271)))) (tC (.int bigM))) (gD 3)) (tRet (tIxD K 3)))
section
variable {K : PySem.W.Frag} {H : Hp} {σ : L2.St} {Q : VK} {a c : Addr}
theorem mixed_reads {vs : List V} {E : XK} (h : spMixed K vs H Q E) (E' : Ends) (hE : E'.rt = Q) : tMixedT K E' (L2.start ["pot", "cell", "once"] vs) H := by
  obtain ⟨a, c, cell, p, g, x, rfl, ha, ⟨b3, b4⟩, hQ⟩ := h
  subst hE
  have b4' : x < 2305843009213693951 := b4
  refine dix rfl ha (show _ = some (.int x) from rfl) (dix rfl ha (show _ = some (.int x) from rfl) ⟨x, x, rfl, rfl, .inr ⟨by omega, by omega⟩, .int cell, rfl, _, _, rfl, rfl, _, _, rfl, rfl, .inl ⟨_, rfl, _, bigM, rfl, rfl, (by decide : (0:Int) < bigM), ?_⟩⟩)
  have d1 := Int.emod_nonneg (x * x + cell + 104729) (show bigM ≠ 0 by decide)
  have d2 := Int.emod_lt_of_pos (x * x + cell + 104729) (show (0:Int) < bigM by decide)
  obtain ⟨y, hy⟩ : ∃ y, y = (x * x + cell + 104729) % bigM := ⟨_, rfl⟩
  rw [← hy] at d1 d2
  have d2' : y < 2305843009213693951 := d2
  refine ⟨.int y, by rw [hy]; rfl, .int y, by rw [hy]; rfl, y, y, rfl, rfl, .inr ⟨by omega, by omega⟩, _, _, rfl, rfl, .inl ⟨_, rfl, _, bigM, rfl, rfl, (by decide : (0:Int) < bigM), ?_⟩⟩
  refine dset rfl ha (show _ = some 3 from rfl) ?_
  refine dix rfl upd_same (show _ = some (.int ((y * y + 48271) % bigM)) from rfl) ?_
  exact hQ _ (Int.emod_nonneg _ (by decide)) (Int.emod_lt_of_pos _ (by decide))
/-- the draw -/
def tMx (K : PySem.W.Frag) (t : TE) : TE := tOp rModI (tOp rDivI (tCall (spMixed K) [] E0 (L2.tCons (tVar 0) (L2.tCons t L2.tNil))) (tC (.int 1009))) (tVar 1)
def tPotHead (K : PySem.W.Frag) : TS :=
  tSeq (tAsg (tOp (rIx K) (tIxD K 0) (tIxD K 1)) (gName 2))
    (tSeq (tAsg (tOp rAddI (tIxD K 1) (tC (.int 1))) (gD 1))
      (tSeq (tIfS (tTest (tOp (rI0 fun i j => .bl (decide (i < j))) (tVar 2) (tOp (rI CPow fun i j => .int (i ^ j.toNat)) (tC (.int 10)) (tC (.int 18)))))
          (tRet (tMx K (tVar 2))) tNext)
        (tAsg (tOp (rI0 fun i j => .int (i - j)) (tVar 2) (tOp (rI CPow fun i j => .int (i ^ j.toNat)) (tC (.int 10)) (tC (.int 18)))) (gD 2))))
def tPotTail (K : PySem.W.Frag) : TS :=
  tSeq (tAsg (tOp rModI (tI1 (tIxD K 2)) (tVar 1)) (gName 3))
    (tSeq (tAsg (tOp rDivI (tIxD K 2) (tVar 1)) (gD 2)) (tRet (tVar 3)))
def tPotT (K : PySem.W.Frag) : TS := tSeq (tIfS (tCond K) (tPotHead K) (tIfS (tTest (tOp rEq (tIxD K 2) (tC (.int 0)))) (tRet (tMx K (tC (.int 0)))) tNext)) (tPotTail K)
theorem mx_reads {m p g x cell : Int} {t : TE} {H0 : Hp} (hσ0 : σ[0]? = some (some (.ref a))) (hσ1 : σ[1]? = some (some (.int m))) (hm : 0 < m) (hb : 0 ≤ p ∧ 0 ≤ g ∧ 0 ≤ x ∧ x < bigM) (ht : ∀ H' R, R (.int cell) H' → t σ H' R)
    (hH : ∀ d p' g' x', 0 ≤ d → d < m → (0 ≤ p' ∧ 0 ≤ g' ∧ 0 ≤ x' ∧ x' < bigM) → Q (.int d) (upd H0 a (.lst [.ref c, .int p', .int g', .int x']))) :
    tMx K t σ (upd H0 a (.lst [.ref c, .int p, .int g, .int x])) Q := by
  refine ⟨.ref a, hσ0, ht _ _ ⟨a, c, cell, p, g, x, rfl, upd_same, hb.2.2, fun y y0 y1 => ⟨y, 1009, rfl, rfl, ⟨by decide, by decide⟩, .int m, hσ1, _, m, rfl, rfl, hm, ?_⟩⟩⟩
  rw [upd_upd]
  exact hH _ _ _ _ (Int.emod_nonneg _ (by omega)) (Int.emod_lt_of_pos _ hm) ⟨hb.1, hb.2.1, y0, y1⟩
theorem pot_tail {m p g x : Int} {H0 : Hp} (hσ0 : σ[0]? = some (some (.ref a))) (hσ1 : σ[1]? = some (some (.int m))) (hl : 3 < σ.length) (hm : 0 < m) (hm2 : m < 1073741824) (hb : 0 ≤ p ∧ 0 ≤ g ∧ 0 ≤ x ∧ x < bigM)
    (hH : ∀ d p' g' x', 0 ≤ d → d < m → (0 ≤ p' ∧ 0 ≤ g' ∧ 0 ≤ x' ∧ x' < bigM) → Q (.int d) (upd H0 a (.lst [.ref c, .int p', .int g', .int x']))) (E : Ends) (hE : E.rt = Q) :
    tPotTail K E σ (upd H0 a (.lst [.ref c, .int p, .int g, .int x])) := by
  subst hE
  obtain ⟨b1, b2, b3, b4⟩ := hb
  have h0 : (upd H0 a (.lst [.ref c, .int p, .int g, .int x])) a = some (.lst [.ref c, .int p, .int g, .int x]) := upd_same
  refine dix hσ0 h0 (show _ = some (.int g) from rfl) (.inl ⟨g, rfl, _, hσ1, g, m, rfl, rfl, hm, ?_⟩)
  show tAsg (tOp rDivI (tIxD K 2) (tVar 1)) (gD 2) _ (σ.set 3 (some (.int (g % m)))) _
  have k0 : (σ.set 3 (some (V.int (g % m))))[0]? = some (some (.ref a)) := by rw [List.getElem?_set_ne (by decide)]; exact hσ0
  have k1 : (σ.set 3 (some (V.int (g % m))))[1]? = some (some (.int m)) := by rw [List.getElem?_set_ne (by decide)]; exact hσ1
  refine dix k0 h0 (show _ = some (.int g) from rfl) ⟨_, k1, g, m, rfl, rfl, ⟨hm, hm2⟩, ?_⟩
  refine dset k0 h0 (show _ = some 2 from rfl) ⟨.int (g % m), ?_, ?_⟩
  · rw [List.getElem?_set_self hl]
  · show E.rt _ (upd (upd _ _ _) _ _)
    rw [upd_upd]
    exact hH _ _ _ _ (Int.emod_nonneg _ (by omega)) (Int.emod_lt_of_pos _ hm) ⟨b1, Int.ediv_nonneg b2 (by omega), b3, b4⟩
theorem pot_head {m p g x : Int} {ns : List Int} (hc : SqL K H c (ns.map V.int)) (ha : H a = some (.lst [.ref c, .int p, .int g, .int x])) (hm : 0 < m) (hb : 0 ≤ p ∧ 0 ≤ g ∧ 0 ≤ x ∧ x < bigM) (hp : p < (ns.length : Int)) (E : Ends)
    (hH : ∀ d p' g' x', 0 ≤ d → d < m → (0 ≤ p' ∧ 0 ≤ g' ∧ 0 ≤ x' ∧ x' < bigM) → E.rt (.int d) (upd H a (.lst [.ref c, .int p', .int g', .int x'])))
    (hE : ∀ cell p' g' x', (0 ≤ p' ∧ 0 ≤ g' ∧ 0 ≤ x' ∧ x' < bigM) → E.nx [some (.ref a), some (.int m), some (.int cell), none] (upd H a (.lst [.ref c, .int p', .int g', .int x']))) :
    tPotHead K E [some (.ref a), some (.int m), none, none] H := by
  obtain ⟨b1, b2, b3, b4⟩ := hb
  unfold tPotHead
  have hpn : p.toNat < ns.length := by omega
  have hat : atI (ns.map V.int) p = some (.int ns[p.toNat]) := by
    unfold atI ixN
    rw [List.length_map, if_pos b1, if_pos hp]
    simp [hpn]
  refine dix rfl ha (show _ = some (.ref c) from rfl) (dix rfl ha (show _ = some (.int p) from rfl) (.inl ⟨c, _, p, _, rfl, rfl, hc, hat, ?_⟩))
  generalize ns[p.toNat] = cell
  refine dix (σ := [some (.ref a), some (.int m), some (.int cell), none]) rfl ha (show _ = some (.int p) from rfl) ⟨p, 1, rfl, rfl, dset rfl ha (show _ = some 1 from rfl) ?_⟩
  refine ⟨_, rfl, 10, 18, rfl, rfl, ⟨by decide, by decide, by decide⟩, cell, (10 : Int) ^ (18 : Int).toNat, rfl, rfl, _, rfl, ?_⟩
  by_cases hc18 : cell < (10 : Int) ^ (18 : Int).toNat
  · refine (if_pos (decide_eq_true hc18)).mpr ?_
    show tMx K (tVar 2) _ (upd H a (.lst [.ref c, .int (p + 1), .int g, .int x])) E.rt
    exact mx_reads (cell := cell) rfl rfl hm ⟨by omega, b2, b3, b4⟩ (fun H' R h => ⟨_, rfl, h⟩) hH
  · refine (if_neg (fun z => hc18 (of_decide_eq_true z))).mpr ?_
    refine ⟨_, rfl, 10, 18, rfl, rfl, ⟨by decide, by decide, by decide⟩, cell, (10 : Int) ^ (18 : Int).toNat, rfl, rfl, dset rfl upd_same (show _ = some 2 from rfl) ?_⟩
    rw [upd_upd]
    exact hE cell (p + 1) _ x ⟨by omega, by omega, b3, b4⟩
theorem pot_reads {vs : List V} {E : XK} (h : spDeal K vs H Q E) (E' : Ends) (hE : E'.rt = Q) : tPotT K E' (L2.start ["pot", "many", "cell", "digit"] vs) H := by
  obtain ⟨a, c, ns, m, p, g, x, rfl, hm, hm2, hc, hn, ha, hb, hQ⟩ := h
  have eH : upd H a (.lst [.ref c, .int p, .int g, .int x]) = H := by
    funext b
    by_cases e : b = a
    · subst e
      rw [upd_same, ha]
    · rw [upd_ne e]
  have s0 : (L2.start ["pot", "many", "cell", "digit"] [V.ref a, V.int m]) = [some (.ref a), some (.int m), none, none] := rfl
  rw [s0]
  have hQ' : ∀ d p' g' x', 0 ≤ d → d < m → (0 ≤ p' ∧ 0 ≤ g' ∧ 0 ≤ x' ∧ x' < bigM) → E'.rt (.int d) (upd H a (.lst [.ref c, .int p', .int g', .int x'])) := by rw [hE]; exact hQ
  have tail : ∀ (σ : L2.St) (p' g' x' : Int) (k0 : σ[0]? = some (some (.ref a))) (k1 : σ[1]? = some (some (.int m))) (kl : 3 < σ.length) (kb : 0 ≤ p' ∧ 0 ≤ g' ∧ 0 ≤ x' ∧ x' < bigM), tPotTail K E' σ (upd H a (.lst [.ref c, .int p', .int g', .int x'])) := fun σ p' g' x' k0 k1 kl kb => pot_tail (K := K) (c := c) (H0 := H) k0 k1 kl hm hm2 kb hQ E' hE
  have miss : g = 0 → (tIfS (tTest (tOp rEq (tIxD K 2) (tC (.int 0)))) (tRet (tMx K (tC (.int 0)))) tNext) { E' with nx := tPotTail K E' } [some (.ref a), some (.int m), none, none] H := fun hg => by
    refine dix rfl ha (show _ = some (.int g) from rfl) ⟨rfl, decide (V.int g = V.int 0), rfl, ?_⟩
    refine (if_pos (decide_eq_true (by rw [hg]))).mpr ?_
    have := mx_reads (K := K) (σ := [some (.ref a), some (.int m), none, none]) (H0 := H) (cell := 0) (t := tC (.int 0)) (Q := E'.rt) rfl rfl hm hb (fun H' R h => h) hQ'
    rw [eH] at this
    exact this
  refine dix (i := 2) rfl ha (show _ = some (.int g) from rfl) ⟨rfl, decide (V.int g = V.int 0), rfl, ?_⟩
  by_cases hg : g = 0
  · refine (if_pos (decide_eq_true (by rw [hg]))).mpr ?_
    refine dix rfl ha (show _ = some (.int p) from rfl) (dix rfl ha (show _ = some (.ref c) from rfl) (.inl ⟨_, ns.length, rfl, .inl ⟨_, hc, by simp⟩, p, _, rfl, rfl, decide (p < (ns.length : Int)), rfl, ?_⟩))
    by_cases hp : p < (ns.length : Int)
    · refine (if_pos (decide_eq_true hp)).mpr ?_
      exact pot_head hc ha hm hb hp _ hQ' fun cell p' g' x' kb => tail [some (.ref a), some (.int m), some (.int cell), none] p' g' x' rfl rfl (Nat.lt_succ_self 3) kb
    · exact (if_neg (fun z => hp (of_decide_eq_true z))).mpr (miss hg)
  · refine (if_neg (fun z => hg (by injection (of_decide_eq_true z)))).mpr ?_
    refine (if_neg (by decide)).mpr ?_
    refine dix rfl ha (show _ = some (.int g) from rfl) ⟨rfl, decide (V.int g = V.int 0), rfl, ?_⟩
    refine (if_neg (fun z => hg (by injection (of_decide_eq_true z)))).mpr ?_
    have := tail [some (.ref a), some (.int m), none, none] p g x rfl rfl (Nat.lt_succ_self 3) hb
    rw [eH] at this
    exact this
end
end DL
/-! DL23: enumerate, dicts keyed by tuples, sorted of such a dict, abs, index. -/
namespace DL
open PySem PySem.Spec PyProof.Rows L2
/-! enumerate -/
def enumD : Nat → List D → List D
  | _, [] => []
  | k, d :: ds => .tup [.int (k : Nat), d] :: enumD (k + 1) ds
theorem enumD_len : ∀ (k : Nat) (ds : List D), (enumD k ds).length = ds.length
  | _, [] => rfl
  | k, d :: ds => by show (enumD (k + 1) ds).length + 1 = ds.length + 1; rw [enumD_len]
theorem enumD_get : ∀ (k : Nat) (ds : List D) (i : Nat), (enumD k ds)[i]? = ds[i]?.map fun d => .tup [.int ((k + i : Nat) : Int), d]
  | _, [], i => by simp [enumD]
  | k, d :: ds, 0 => rfl
  | k, d :: ds, i + 1 => by
    show (enumD (k + 1) ds)[i]? = ds[i]?.map _
    rw [enumD_get (k + 1) ds i, show k + 1 + i = k + (i + 1) from by omega]
section
variable {K : PySem.W.Frag} {G U H : Hp} {ds : List D} {xs : List V} {a : Addr}
theorem gives_enum (h : SqL K G a xs) (hd : DVs K G ds xs) : Gives K (Ite K a) G (enumD 0 ds) := by
  have hl : (enumD 0 ds).length = xs.length := by rw [enumD_len, hd.len]
  refine ⟨fun i H G' U μ hi e b => ?_, fun i H G' U μ x H' hi e b y => ?_, fun H G' U μ e b => ?_⟩
  · have hi' : i < xs.length := hl ▸ hi
    exact ⟨xs, xs[i], b.sub.seq (e.seq h), List.getElem?_eq_getElem hi'⟩
  · obtain ⟨T, x', rfl, hT, rfl, y⟩ := y
    have hi' : i < ds.length := by rw [enumD_len] at hi; exact hi
    obtain ⟨v, hv, dv⟩ := hd.get (List.getElem?_eq_getElem hi')
    have := (y xs (b.sub.seq (e.seq h))).symm.trans hv
    injection this with this
    subst this
    have gT : G' T = none := b.sub.free hT
    refine ⟨upd G' T (.tup [.int (i : Nat), x']), same_new gT, ?_, fun σ s hμ hs => (hs.newD hT).2⟩
    have e2 : (enumD 0 ds)[i] = .tup [.int (i : Nat), ds[i]] := by
      have := enumD_get 0 ds i
      rw [List.getElem?_eq_getElem hi, List.getElem?_eq_getElem hi'] at this
      simpa using this
    rw [e2]
    exact ⟨T, _, rfl, upd_same, _, _, rfl, rfl, _, _, rfl, (dv.mono e).mono (same_new gT), rfl⟩
  · exact ⟨xs, b.sub.seq (e.seq h), by rw [hl]; exact Nat.le_refl _⟩
end
def enuk : D → (List D → Prop) → Prop
  | .lst ds, k => k (enumD 0 ds)
  | _, _ => False
def iEnu (φ : PhiE) : PhiI := fun s P => φ s fun r s1 => fz r s1 fun d s2 => enuk d fun ds => P ds s2
section
variable {X : Cx} {e : Expr} {φ : PhiE} {p pos tpos : Pos} {elts : List Expr} {kk : Nat}
theorem di_enum (hg : Gl X "enumerate") (hm : X.mg "enumerate" = none) (h : PE X e (liftE X.K φ)) (hs : starEach [e] X.env = (false, eval e X.env) :: starEach [] X.env := by rfl) (hs2 : starEach [e] X.env = [(false, eval e X.env)] := by rfl) :
    PI X (.Tuple elts kk tpos) (.Call (.Name "enumerate" p) [e] [] pos) (liftI X.K (iEnu φ)) :=
  (pi_enum hg hm (da_cons h da_nil hs) hs2).imp fun σ H R ⟨G, U, s, P, hst, hr, k⟩ => by
    refine ⟨G, U, s, fun ds s1 => match ds with
      | [d] => enuk d fun es => P es s1
      | _ => False, hst, hr, fun ds s1 G1 H1 vs q1 e1 hs1 dv => ?_⟩
    cases ds with
    | nil => exact q1.elim
    | cons d rest =>
      cases rest with
      | cons d2 rest => exact q1.elim
      | nil =>
        obtain ⟨v, r, rfl, dd, e4⟩ := dv
        have e4 : r = [] := e4
        subst e4
        cases d with
        | lst es =>
          obtain ⟨a, xs, rfl, h1, h2⟩ := dd
          exact ⟨a, xs, rfl, hs1.base.sub.seq h1, k _ s1 G1 H1 _ q1 e1 hs1 (gives_enum h1 h2)⟩
        | _ => exact q1.elim
end
/-! a dict whose keys are tuples -/
def eDicT : PhiE := fun s R => R (.t [] []) s
def trep : List (List Key) → List D → List Key → D → List D
  | k :: ks, d :: ds, x, y => (if k = x then y else d) :: trep ks ds x y
  | _, _, _, _ => []
def thas (ks : List (List Key)) (x : List Key) : Bool := ks.any fun k => decide (k = x)
theorem trep_ok {K : PySem.W.Frag} {G : Hp} {y : D} {w : V} (hw : DV K G y w) {x : List Key} : ∀ {ks : List (List Key)} {ds : List D} {vs : List V}, ks.length = vs.length → DVs K G ds vs →
    ∃ us, (ks.zip vs).map (fun kv => if kv.1 = x then (kv.1, w) else kv) = ks.zip us ∧ ks.length = us.length ∧ DVs K G (trep ks ds x y) us
  | [], _, _, hl, h => ⟨[], rfl, rfl, by cases ‹List D› <;> exact rfl⟩
  | k :: ks, [], vs, hl, h => by
    have h : vs = [] := h
    subst h
    simp at hl
  | k :: ks, d :: ds, vs, hl, ⟨v, r, h1, h2, h3⟩ => by
    subst h1
    obtain ⟨us, e1, e2, e3⟩ := trep_ok hw (x := x) (ks := ks) (ds := ds) (vs := r) (by simpa using hl) h3
    by_cases e : k = x
    · refine ⟨w :: us, ?_, by simp [e2], w, us, rfl, ?_, e3⟩
      · show (if k = x then (k, w) else (k, v)) :: (ks.zip r).map _ = (k, w) :: ks.zip us
        rw [if_pos e, e1]
      · show DV K G (if k = x then y else d) w
        rw [if_pos e]
        exact hw
    · refine ⟨v :: us, ?_, by simp [e2], v, us, rfl, ?_, e3⟩
      · show (if k = x then (k, w) else (k, v)) :: (ks.zip r).map _ = (k, v) :: ks.zip us
        rw [if_neg e, e1]
      · show DV K G (if k = x then y else d) v
        rw [if_neg e]
        exact h2
theorem any_zipT {α : Type} (x : List Key) : ∀ (ks : List (List Key)) (vs : List α), ks.length = vs.length → ((ks.zip vs).any fun kv => decide (kv.1 = x)) = thas ks x
  | [], _, _ => rfl
  | k :: ks, [], h => by simp at h
  | k :: ks, v :: vs, h => by
    show (decide (k = x) || (ks.zip vs).any fun kv => decide (kv.1 = x)) = (decide (k = x) || ks.any fun k => decide (k = x))
    rw [any_zipT x ks vs (by simpa using h)]
    rfl
theorem tput_ok {K : PySem.W.Frag} {G : Hp} {y : D} {w : V} (hw : DV K G y w) {x : List Key} {ks : List (List Key)} {ds : List D} {vs : List V} (hl : ks.length = vs.length) (h : DVs K G ds vs) :
    ∃ us, putK (ks.zip vs) x w = (if thas ks x = true then ks else ks ++ [x]).zip us ∧ (if thas ks x = true then ks else ks ++ [x]).length = us.length ∧ DVs K G (if thas ks x = true then trep ks ds x y else ds ++ [y]) us := by
  unfold putK
  rw [any_zipT x ks vs hl]
  by_cases e : thas ks x = true
  · rw [if_pos e, if_pos e, if_pos e]
    exact trep_ok hw hl h
  · rw [if_neg e, if_neg e, if_neg e]
    exact ⟨vs ++ [w], by rw [List.zip_append hl]; rfl, by simp [hl], h.app (DVs.one hw)⟩
theorem own_thereT {K : PySem.W.Frag} {G U H : Hp} {σ : L2.St} {s : S} {i : Nat} (h : DL.St K G U H σ s) {ks : List (List Key)} {ds : List D} (e : get s.ρ i = .t ks ds) : ∃ a xs, σ[i]? = some (some (.ref a)) ∧ OwnAt σ s.ρ i a ∧ H a = some (.dT (ks.zip xs)) ∧ ks.length = xs.length ∧ DVs K G ds xs := by
  have ho : (get s.ρ i).own = true := by rw [e]; rfl
  obtain ⟨a, e1, oa, h1, h2, h3, h4⟩ := h.ownAt ho
  rw [e] at h4
  obtain ⟨xs, q1, q2, q3⟩ := h4
  exact ⟨a, xs, e1, oa, q1, q2, q3⟩
def tyk : D → (List Key → Prop) → Prop
  | .tup es, K => match keyTs es with
    | some k => K k
    | none => False
  | _, _ => False
def tpk0 : Sl → Prop → Prop
  | .t _ _, P => P
  | _, _ => False
def tpk : Sl → Nat → List Key → D → S → (S → Prop) → Prop
  | .t ks ds, i, x, d, s, K => ks.length < sizeLine ∧ K (if thas ks x = true then s.set i (.t ks (trep ks ds x d)) else s.set i (.t (ks ++ [x]) (ds ++ [d])))
  | _, _, _, _, _, _ => False
/-- d[k] = v, d an own dict keyed by tuples -/
def sTPut (i : Nat) (φk φ : PhiE) : PhiS := fun Δ s => φ s fun r s1 => fz r s1 fun d s2 => tpk0 (get s2.ρ i) (φk s2 fun rk s3 => lk rk s3 fun dk => tyk dk fun x => tpk (get s3.ρ i) i x d s3 Δ.nx)
section
variable {X : Cx} {e : Expr} {φ : PhiE} {p pos tpos : Pos} {i : Nat}
theorem de_dnewT : PE X (.Dict [] [] pos) (liftE X.K eDicT) := pe_dnewT.imp fun σ H Q ⟨G, U, s, R, hs, hr, k⟩ => fun p hp => by
  obtain ⟨h1, h2, h3, h4, h5⟩ := hs.new (o := .dT []) hp
  exact k _ s G _ _ hr (Same.refl _) h1 ⟨p, rfl, h2, h3, h4, ⟨[], upd_same, rfl, rfl⟩, h5⟩
theorem ds_tput {o e1 : Expr} {φk : PhiE} {pos' : Pos} (hu : X.A.units + 64 < cLine) (ho : PE X o (tVar i)) (hi : PE X e1 (liftE X.K φk)) (hv : PE X e (liftE X.K φ)) (hs : swapsWith e (some (.Subscript o e1 pos')) pos.line X.env = pure false := by rfl) :
    PS X (.Assign [.Subscript o e1 pos'] e pos) (liftS X.K (sTPut i φk φ)) :=
  (ps_dput (by omega) ho hi hv hs).imp fun E σ H ⟨G, U, s, Δ, hst, hr, k⟩ => by
    refine ⟨G, U, s, _, hst, hr, fun r s1 G1 H1 v q1 e1 hs1 hv1 => ?_⟩
    obtain ⟨G1', e1', hs1', d1⟩ := frz_ok hs1 hv1
    have q1 : tpk0 (get (frz s1 r).2.ρ i) (φk (frz s1 r).2 fun rk s3 => lk rk s3 fun dk => tyk dk fun x => tpk (get s3.ρ i) i x (frz s1 r).1 s3 Δ.nx) := q1
    cases e0 : get (frz s1 r).2.ρ i with
    | t ks0 ds0 =>
      rw [e0] at q1
      obtain ⟨a, xs, p1, p2, p3, p4, p5⟩ := own_thereT hs1' e0
      refine ⟨.ref a, p1, G1', U, _, _, hs1', q1, fun rk s3 G3 H3 vk q3 e3 hs3 hv3 => ?_⟩
      obtain ⟨G3', e3', hs3', pn⟩ := pin_ok hs3 hv3
      rw [← pin_lk] at q3
      obtain ⟨dk, lx, q3⟩ := lk_ok hs3' pn q3
      cases dk with
      | tup es =>
        unfold tyk at q3
        simp only at q3
        obtain ⟨bk, ws, rfl, g1, g2⟩ := lx.tupS hs3'.base
        cases ek : keyTs es with
        | none => rw [ek] at q3; exact q3.elim
        | some x =>
          rw [ek] at q3
          have q3 : tpk (get s3.ρ i) i x (frz s1 r).1 s3 Δ.nx := q3
          cases e4 : get s3.ρ i with
          | t ks ds =>
            rw [e4] at q3
            obtain ⟨a', us, y1, y2, y3, y4, y5⟩ := own_thereT hs3' e4
            have : a' = a := by
              have z := p1.symm.trans y1
              injection z with z
              injection z with z
              injection z with z
              exact z.symm
            subst this
            have hw := (d1.mono e3).mono e3'
            obtain ⟨zs, z1, z2, z3⟩ := tput_ok (y := (frz s1 r).1) hw (x := x) (ks := ks) (ds := ds) y4 y5
            have hlen : (ks.zip us).length < sizeLine := by
              rw [List.length_zip]
              have := q3.1
              omega
            refine ⟨a', upd H3 a' (.dT (putK (ks.zip us) x v)), rfl, .inr ⟨ks.zip us, x, bk, y3, rfl, by rw [g1, keyTs_ok g2 ek], hlen, rfl⟩, ?_⟩
            have fin : ∀ {S' : S}, DL.St X.K G3' U (upd H3 a' (.dT (putK (ks.zip us) x v))) σ S' → Δ.nx S' → E.nx σ (upd H3 a' (.dT (putK (ks.zip us) x v))) := fun {S'} a b => k.nx S' G3' _ σ b ((((e1.trans e1').trans e3).trans e3')) a
            have q4 : Δ.nx (if thas ks x = true then s3.set i (.t ks (trep ks ds x (frz s1 r).1)) else s3.set i (.t (ks ++ [x]) (ds ++ [(frz s1 r).1]))) := q3.2
            by_cases hd : thas ks x = true
            · rw [if_pos hd] at q4
              rw [if_pos hd] at z1 z2
              rw [if_pos hd] at z3
              exact fin (hs3'.wr (x := .t ks (trep ks ds x (frz s1 r).1)) y2 ⟨zs, by rw [z1]; exact upd_same, z2, z3⟩) q4
            · rw [if_neg hd] at q4
              rw [if_neg hd] at z1 z2
              rw [if_neg hd] at z3
              exact fin (hs3'.wr (x := .t (ks ++ [x]) (ds ++ [(frz s1 r).1])) y2 ⟨zs, by rw [z1]; exact upd_same, z2, z3⟩) q4
          | _ => rw [e4] at q3; exact q3.elim
      | _ => exact q3.elim
    | _ => rw [e0] at q1; exact q1.elim
/-! a = b = e -/
def sAsg2 (φ : PhiE) (γ1 γ2 : PhiG) : PhiS := fun Δ s => φ s fun r s1 => fz r s1 fun d s2 => γ1 d s2 fun s3 => γ2 d s3 Δ.nx
theorem ds_asg2 {t1 t2 : Expr} {γ1 γ2 : PhiG} {ws us : List Nat} (he : PE X e (liftE X.K φ)) (h1 : PG X t1 (liftG X.K ws γ1)) (h2 : PG X t2 (liftG X.K us γ2)) (ha : (assignEach [t1, t2] X.env).map (·.2) = [assign t1 X.env, assign t2 X.env] := by rfl) (hw : swappedStores [t1, t2] e X.env = pure none := by rfl) :
    PS X (.Assign [t1, t2] e pos) (liftS X.K (sAsg2 φ γ1 γ2)) :=
  (ps_asg2 he h1 h2 ha hw).imp fun E σ H ⟨G, U, s, Δ, hs, hr, k⟩ => ⟨G, U, s, _, hs, hr, fun r s1 G1 H1 v q1 e1 hs1 hv1 => by
    obtain ⟨G1', e1', hs1', d1⟩ := frz_ok hs1 hv1
    exact ⟨G1', U, _, _, _, hs1', d1, q1, fun s' σ' G' H' q e hs' _ => ⟨G', U, s', _, Δ.nx, hs', d1.mono e, q, fun s2 σ2 G2 H2 q2 e2 hs2 _ => k.nx s2 G2 H2 σ2 q2 (((e1.trans e1').trans e).trans e2) hs2⟩⟩⟩
end
/-! abs, index of a text -/
def absI (i : Int) : Int := if i < 0 then -i else i
def oAbs : O1 := fun x R => match x with
  | .int i => R (.d (.int (absI i)))
  | _ => False
theorem cs_abs {K : PySem.W.Frag} : Call1S K (fun xs H Q => ∃ i, xs = [.int i] ∧ Q (.int (if i < 0 then -i else i)) H) oAbs := fun G U H μ x d R Q b l h k => by
  cases d with
  | int i => cases l.int; exact ⟨i, rfl, k.int b h⟩
  | _ => exact h.elim
def oIndexS : O2 := fun x y R => match x, y with
  | .lst ds, .str z => match asStrs ds with
    | some xs => z ∈ xs ∧ R (.d (.int (xs.idxOf z : Nat)))
    | none => False
  | _, _ => False
def isLst : D → Prop → Prop
  | .lst _, P => P
  | _, _ => False
def eIndex (φ1 φ2 : PhiE) : PhiE := fun s R => φ1 s fun r1 s1 => lk r1 s1 fun x0 => isLst x0 (φ2 s1 fun r2 s2 => lk r1 s2 fun x => lk r2 s2 fun y => oIndexS x y fun r => R r s2)
theorem idx_flat (zs : List Str) : (zs.map V.str).all flatV = true := by
  rw [List.all_map]
  exact List.all_eq_true.mpr fun z _ => rfl
theorem de_index {X : Cx} {o e : Expr} {φ1 φ2 : PhiE} {apos cpos : Pos} (ho : PE X o (liftE X.K φ1)) (he : PE X e (liftE X.K φ2))
    (hbase : attributeBase o "index" X.env (eval o X.env) = eval o X.env := by rfl) (hline : (apos.endLine == cpos.line) = true := by rfl) (hs : starEach [e] X.env = [(false, eval e X.env)] := by rfl)
    (hfew : ((backTo cpos (starEach [e] X.env)).all (fun x => !x.1) && (backToKw cpos (keywordEach [] X.env)).all (fun x => x.1.isSome) && decide ([e].length + ([] : List Keyword).length + (if ([] : List Keyword).isEmpty then 0 else 1) < 30)) = true := by rfl) :
    PE X (.Call (.Attribute o "index" apos) [e] [] cpos) (liftE X.K (eIndex φ1 φ2)) := by
  refine (pe_bm PySem.F.plainAttrs_list PySem.F.slot_list_index PySem.F.type_list_index mt_index ho (pa_cons he pa_nil (by rw [hs] <;> rfl)) hbase hfew hline (by rw [hs] <;> rfl) rfl).imp fun σ H Q ⟨G, U, s, R, hst, hr, k⟩ => ?_
  refine ⟨G, U, s, _, hst, hr, fun r1 s1 G1 H1 v1 q1 e1 hs1 hv1 => ?_⟩
  obtain ⟨G1', e1', hs1', p1⟩ := pin_ok hs1 hv1
  rw [← pin_lk] at q1
  obtain ⟨x0, lx0, q1⟩ := lk_ok hs1' p1 q1
  cases x0 with
  | lst es =>
    have q1 : φ2 s1 fun r2 s2 => lk r1 s2 fun x => lk r2 s2 fun y => oIndexS x y fun r => R r s2 := q1
    obtain ⟨a0, ys0, rfl, z1, z2⟩ := lx0.lst hs1'.base
    refine ⟨.inl ⟨rfl, ys0, z1⟩, G1', U, s1, _, hs1', q1, fun r2 s2 G2 H2 v2 q2 e2 hs2 hv2 => ?_⟩
    obtain ⟨G2', e2', hs2', p2⟩ := pin_ok hs2 hv2
    rw [← pin_lk] at q2
    obtain ⟨x, lx, q2⟩ := lk_ok hs2' (Pn.mono (e2.trans e2') p1) q2
    rw [← pin_lk] at q2
    obtain ⟨y, ly, q2⟩ := lk_ok hs2' p2 q2
    cases x with
    | lst ds =>
      cases y with
      | str z =>
        have q2 : (match asStrs ds with | some xs => z ∈ xs ∧ R (.d (.int (xs.idxOf z : Nat))) s2 | none => False) := q2
        cases ea : asStrs ds with
        | none => rw [ea] at q2; exact q2.elim
        | some xs =>
          rw [ea] at q2
          obtain ⟨hz, q2⟩ := q2
          obtain ⟨a, us, e3, h1, h2⟩ := lx.lst hs2'.base
          cases ly.str
          cases e3
          rw [asStrs_ok ea] at h2
          rw [h2.strs] at h1
          have hi : xs.idxOf z < xs.length := List.idxOf_lt_length_of_mem hz
          refine ⟨_, _, .str z, xs.idxOf z, .str z, rfl, rfl, h1, rfl, idx_flat xs, ?_, by show (z == z) = true; simp, fun m z' hm hz' => ?_, k _ s2 G2' H2 _ q2 (((e1.trans e1').trans e2).trans e2') hs2' rfl⟩
          · rw [List.getElem?_map, List.getElem?_eq_getElem hi, List.getElem_idxOf hi]
            rfl
          · rw [List.getElem?_map] at hz'
            cases hw : xs[m]? with
            | none => rw [hw] at hz'; cases hz'
            | some w =>
              rw [hw] at hz'
              cases hz'
              show (w == z) = false
              have hm' : m < xs.length := by omega
              rw [List.getElem?_eq_getElem hm'] at hw
              cases hw
              have := List.not_of_lt_findIdx (p := fun y => y == z) (xs := xs) (i := m) hm
              simpa using this
      | _ => exact q2.elim
    | _ => exact q2.elim
  | _ => exact q1.elim
end DL
/-! DL24: sorted of a dict keyed by tuples. -/
namespace DL
open PySem PySem.Spec PyProof.Rows L2
def kD : Key → D
  | .inl i => .int i
  | .inr x => .str x
def keyD (k : List Key) : D := .tup (k.map kD)
theorem kd_dp {K : PySem.W.Frag} {H : Hp} : ∀ k : List Key, DpAll K H (k.map kV) (D.pys (k.map kD))
  | [] => .nil
  | .inl i :: k => .cons (.int i) (kd_dp k)
  | .inr x :: k => .cons (.str x) (kd_dp k)
theorem kd_dv {K : PySem.W.Frag} {G : Hp} : ∀ k : List Key, DVs K G (k.map kD) (k.map kV)
  | [] => rfl
  | .inl i :: k => ⟨_, _, rfl, rfl, kd_dv k⟩
  | .inr x :: k => ⟨_, _, rfl, rfl, kd_dv k⟩
def IsKD (H : Hp) (b : V × D) : Prop := ∃ t k, b.1 = .ref t ∧ H t = some (.tup (k.map kV)) ∧ b.2 = keyD k
def rSrtT : List V → Hp → VK → Prop := fun vs H Q => ∃ a, ∃ kvs : List (List Key × V), vs = [.ref a] ∧ Rd H a (.dT kvs) ∧ cSort (kvs.map fun p => keyD p.1) ∧
  ∀ bs : List (V × D), bs.map (·.2) = kvs.map (fun p => keyD p.1) → (∀ b ∈ bs, IsKD H b) → ∀ p, H p = none → Q (.ref p) (upd H p (.lst ((bs.mergeSort fun x y => leD x.2 y.2).map (·.1))))
theorem kt_map {H : Hp} {kvs : List (List Key × V)} {xs : List (List Key × Addr × Value)} (r : L2.KT H kvs xs) : xs.map (fun x => keyD x.1) = kvs.map fun p => keyD p.1 := by
  induction r with
  | nil => rfl
  | cons h t ih => rw [List.map_cons, List.map_cons, ih, h.1]
theorem kt_mem {H : Hp} {kvs : List (List Key × V)} {xs : List (List Key × Addr × Value)} (r : L2.KT H kvs xs) : ∀ x ∈ xs, H x.2.1 = some (.tup (x.1.map kV)) := by
  induction r with
  | nil => intro x hx; cases hx
  | cons h t ih =>
    intro x hx
    rcases List.mem_cons.mp hx with rfl | hx
    · rw [← h.1]; exact h.2.1
    · exact ih x hx
section
variable {X : Cx}
theorem cr_srtT (hc : X.calm = true) (hu : X.A.units + 64 < cLine) : CallR X (.builtin "sorted") rSrtT := by
  intro pins s σ H xs us Q I r q
  obtain ⟨a, kvs, rfl, hd, cs, q⟩ := q
  obtain ⟨u, rfl, rx⟩ := vals1 r
  cases rx
  obtain ⟨z, hs, ks, pr, o, es, ep, ho, hx, hdt, he, hn⟩ := (show ObjOk X.prog X.w H s.heap a (.dT kvs) from hd.ok I.hok)
  have l1 : es.size = ks.length := size_of_entries he
  have l2 : kvs.length = ks.length := Paired.length pr
  refine Calls.call_function_entry PyProof.Rows.kind_sorted PyProof.Rows.plain_sorted PyProof.Rows.entry_sorted (PyProof.Rows.args_sorted1 _) ?_
  unfold Builtin.«sorted»
  refine wpAny_bind (m := checkCount "sorted" 1 1 _) (wpAny_pure ?_)
  refine wpAny_bind (PySem.W.kdu_collect (A := X.A.in1) (kdl_raw hs hx hdt) (I.ok.hd hc) ho (by omega) fun h' tk acc hk it => ?_)
  have ea : acc.toList = ks.map fun x => Value.ref x.2.1 := by
    have hl : acc.toList.length = ks.length := by rw [Array.length_toList, it.1]; exact l1
    apply List.ext_getElem?
    intro j
    rw [List.getElem?_map]
    cases hj : acc.toList[j]? with
    | none =>
      have h1 := List.getElem?_eq_none_iff.mp hj
      rw [List.getElem?_eq_none (by omega)]
      rfl
    | some v =>
      obtain ⟨en, hen, hv⟩ := it.2 j v (by rw [← Array.getElem?_toList]; exact hj)
      have qe := entry_at he j
      rw [hen] at qe
      cases hb : ks[j]? with
      | none =>
        rw [hb] at qe
        exact nomatch (show some en = none from qe)
      | some b =>
        rw [hb] at qe
        have e2 : en = entryOfKey (tupleKind (mixKind X.prog X.w)) b := Option.some.inj qe
        rw [hv, e2]
        rfl
  have hal : acc.toList.length = ks.length := by rw [ea, List.length_map]
  have I1 : L2.Inv X pins σ H { s with heap := h', toks := tk } := I.kept hk
  refine wpAny_bind (wpAny_newList ?_ (by rw [hal]; omega))
  have hoL : (h'.push (seqObj "list" acc.toList.toArray 0)).get? h'.objs.size = some (seqObj "list" acc.toList.toArray 0) := Heap.get?_push_size _ rfl
  show wpAny _ _ _ _ _ { s with heap := h'.push (seqObj "list" acc.toList.toArray 0), toks := tk }
  let bs : List (V × D) := ks.map fun x => (V.ref x.2.1, keyD x.1)
  have bl : bs.length = ks.length := List.length_map _
  have b2 : bs.map (·.2) = kvs.map fun p => keyD p.1 := by
    rw [List.map_map]
    exact kt_map pr
  have bk : ∀ b ∈ bs, IsKD H b := fun b hb => by
    obtain ⟨x, hx', rfl⟩ := List.mem_map.mp hb
    exact ⟨_, _, rfl, kt_mem pr x hx', rfl⟩
  have cs' : cSort (bs.map (·.2)) := by rw [b2]; exact cs
  have mem : ∀ b ∈ bs, b.2 ∈ bs.map (·.2) := fun b hb => List.mem_map.mpr ⟨b, hb, rfl⟩
  have ev : Vals (bs.map (·.1)) acc.toList := by
    rw [ea, List.map_map]
    have := vals_refs (ks.map fun x => x.2.1)
    rw [List.map_map, List.map_map] at this
    exact this
  have er := each_vals ev
  have er2 : PySem.W.EachIs (fun v (b : V × D) => ∃ as, Reads (h'.push (seqObj "list" acc.toList.toArray 0)) v b.2.py as ∧ h'.objs.size ∉ as) acc.toList bs := each_and er fun u b hb hr => by
    obtain ⟨t, k, e1, e2, e3⟩ := bk b hb
    obtain ⟨as, rd⟩ := Dp.reads I1 b.2.py b.1 u (by rw [e1, e3]; exact .tup (SqT.of e2) (kd_dp k)) hr
    refine ⟨as, PyProof.Rows.Reads.keeps (fun _ _ e => Heap.get?_push_of_some _ e) rd, fun hm => ?_⟩
    obtain ⟨o', ho'⟩ := PyProof.On.reads_mem_get rd _ hm
    exact absurd (Heap.lt_size ho') (Nat.lt_irrefl _)
  have hal2 : PySem.W.AllAlike (bs.map fun b => b.2.py) := by
    intro d hd d' hd'
    obtain ⟨b, hb, rfl⟩ := List.mem_map.mp hd
    obtain ⟨b', hb', rfl⟩ := List.mem_map.mp hd'
    exact py_alike _ _ (cs'.alike _ (mem b hb) _ (mem b' hb'))
  have hk2 : PySem.W.Sortable (bs.map fun b => b.2.py) := by
    rcases cs'.kind with k | k
    · refine .inl fun d hd => ?_
      obtain ⟨b, hb, rfl⟩ := List.mem_map.mp hd
      obtain ⟨x, r, e⟩ := k _ (mem b hb)
      exact ⟨x.py, D.pys r, by rw [e]; rfl⟩
    · refine .inr fun d hd => ?_
      obtain ⟨b, hb, rfl⟩ := List.mem_map.mp hd
      obtain ⟨o, _, n⟩ := cs'.ok _ (mem b hb)
      exact py_tup (xs := []) o (k _ (mem b hb)) n
  have e1 : bs.mergeSort (PySem.W.dataLe false fun b : V × D => b.2.py) = bs.mergeSort fun x y => leD x.2 y.2 := by
    have := List.map_mergeSort (r := PySem.W.dataLe false fun b : V × D => b.2.py) (s := fun x y : V × D => leD x.2 y.2) (f := id) (l := bs) fun x hx y hy => by
      rw [PySem.W.dataLe_eq]
      show (!PySem.W.dataLt y.2.py x.2.py) = (!D.lt y.2 x.2)
      rw [lt_py (cs'.ok _ (mem y hy)).1 (cs'.ok _ (mem x hx)).1 (cs'.alike _ (mem y hy) _ (mem x hx)) (cs'.ok _ (mem y hy)).2.2]
    rw [List.map_id, List.map_id] at this
    exact this
  refine wpAny_bind (wpAny_holding (PySem.W.list_sort_data (enc := fun b : V × D => b.2.py) hoL er er2 hal2 hk2 (by omega) (fun b hb => ?_) fun out lo eo => ?_))
  · have := py_dep b.2
    have := (cs'.ok _ (mem b hb)).2.1
    show X.A.units + 1 + 1 + b.2.py.depth < cLine
    omega
  rw [e1] at eo
  obtain ⟨e', he'⟩ := PyProof.Rows.sortedHeap_at (vs := acc.toList) (out := out.toArray) hoL
  refine wpAny_pure ⟨_, rfl, .ref h'.objs.size, upd H h'.objs.size (.lst ((bs.mergeSort fun x y => leD x.2 y.2).map (·.1))), I1.laid (t' := tk) (fun b u e => ?_) (Nat.le_refl _) ⟨?_, out, e', vals_each eo, he'⟩, rfl, q bs b2 bk _ (I1.hok.fresh (Nat.le_refl _))⟩
  · have hb : b < h'.objs.size := Heap.lt_size e
    rw [PyProof.Rows.sortedHeap_old (Nat.ne_of_lt hb) (by rw [size_push']; exact Nat.lt_succ_of_lt hb)]
    exact Heap.get?_push_of_some _ e
  · rw [List.length_map, (List.mergeSort_perm _ _).length_eq, bl]
    omega
end
def oSrtT : O1 := fun x R => match x with
  | .dit ks _ => cSort (ks.map keyD) ∧ R (.l ((ks.map keyD).mergeSort leD))
  | _ => False
/-- tuples that are known become frozen ones -/
theorem Base.tups {K : PySem.W.Frag} {G U H : Hp} {μ : Mu} : ∀ {bs : List (V × D)}, Base K G U H μ → (∀ b ∈ bs, IsKD H b) → ∃ G', Same G G' ∧ Base K G' U H μ ∧ ∀ b ∈ bs, DV K G' b.2 b.1
  | [], b, _ => ⟨G, Same.refl _, b, fun _ z => nomatch z⟩
  | b :: bs, hb, h => by
    obtain ⟨G1, e1, b1, k1⟩ := Base.tups hb fun c hc => h c (List.mem_cons_of_mem _ hc)
    obtain ⟨t, k, r1, r2, r3⟩ := h b (List.mem_cons_self ..)
    have fin : ∀ G2, Same G1 G2 → Base K G2 U H μ → G2 t = some (.tup (k.map kV)) → ∃ G', Same G G' ∧ Base K G' U H μ ∧ ∀ c ∈ b :: bs, DV K G' c.2 c.1 := fun G2 e2 b2 g => ⟨G2, e1.trans e2, b2, fun c hc => by
      rcases List.mem_cons.mp hc with rfl | hc
      · rw [r1, r3]
        exact ⟨t, _, rfl, g, kd_dv k⟩
      · exact (k1 c hc).mono e2⟩
    cases hg : G1 t with
    | some o =>
      have := (b1.sub t o hg).symm.trans r2
      exact fin G1 (Same.refl _) b1 (by rw [hg, this])
    | none =>
      refine fin (upd G1 t (.tup (k.map kV))) (same_new hg) (b1.freeze r2 hg ?_ ?_) upd_same
      · cases hu : U t with
        | none => rfl
        | some o =>
          have := (b1.usub t o hu).symm.trans r2
          exact absurd (hu.trans this) (b1.bx t _)
      · cases hm : μ t with
        | none => rfl
        | some ob =>
          have := (b1.mu t ob hm).2
          cases ob with
          | ins C dx fs ds => obtain ⟨xs, q, _⟩ := this; rw [r2] at q; cases q
          | sl x =>
            cases x with
            | l ds => obtain ⟨xs, q, _⟩ := this; rw [r2] at q; cases q
            | k ks ds => obtain ⟨xs, q, _⟩ := this; rw [r2] at q; cases q
            | t ks ds => obtain ⟨xs, q, _⟩ := this; rw [r2] at q; cases q
            | no => exact this.elim
            | d d => exact this.elim
            | b i => exact this.elim
theorem cs_srtT {K : PySem.W.Frag} : Call1S K rSrtT oSrtT := fun G U H μ x d R Q b l h k => by
  cases d with
  | dit ks ds =>
    obtain ⟨a, us, rfl, h1, h2, h3⟩ := l.dit b
    have e : (ks.zip us).map (fun p => keyD p.1) = ks.map keyD := by
      have : (ks.zip us).map (·.1) = ks := List.map_fst_zip (by omega)
      have e0 : (ks.zip us).map (fun p => keyD p.1) = ((ks.zip us).map (·.1)).map keyD := by rw [List.map_map]; rfl
      rw [e0, this]
    refine ⟨a, ks.zip us, rfl, h1, by rw [e]; exact h.1, fun bs e1 e2 p hp => ?_⟩
    rw [e] at e1
    obtain ⟨G', s1, b1, dv⟩ := b.tups e2
    have e3 : (bs.map (·.2)).mergeSort leD = (bs.mergeSort fun x y => leD x.2 y.2).map (·.2) := (List.map_mergeSort (r := fun x y : V × D => leD x.2 y.2) (s := leD) (f := fun x : V × D => x.2) (l := bs) fun _ _ _ _ => rfl).symm
    have hr := h.2
    rw [← e1, e3] at hr
    have kk : Con K G' U μ R Q := fun r v G2 H2 q e4 b4 hv => k r v G2 H2 q (s1.trans e4) b4 hv
    exact kk.lst b1 (DVs.ofPairs fun c hc => dv c ((List.mergeSort_perm _ _).mem_iff.mp hc)) hr hp
  | _ => exact h.elim
end DL
/-! DL25: rewriting lemmas for DL23, DL24; the pot's making and drawing as promises. -/
namespace DL
open PySem PySem.Spec PyProof.Rows L2
section
variable {ρ : List Sl} {μ : Mu} {i j n : Nat} {R : Sl → S → Prop} {RI : List D → S → Prop} {RS : S → Prop} {RM : Sl → Mu → Prop} {φ φ1 φ2 φk : PhiE} {Δ : DE} {ds es : List D} {ks : List (List Key)} {d : D} {k : List Key} {s : S} {x : Str} {γ1 γ2 : PhiG} {K : D → Prop} {ka : D → S → Prop} {RP : Sl → Prop} {f : Bool → Bool} {m : Int}
theorem zDicT : eDicT ⟨ρ, μ⟩ R = R (.t [] []) ⟨ρ, μ⟩ := propext Iff.rfl
theorem zv_t : vR (.t ks ds) i R s = R (.b i) s := propext Iff.rfl
theorem zlk_t : lk (.t ks ds) s K = K (.dit ks ds) := propext Iff.rfl
theorem zls_t : lkS (.t ks ds) K = K (.dit ks ds) := propext Iff.rfl
theorem zfz_t : fz (.t ks ds) s ka = ka (.dit ks ds) s := propext Iff.rfl
theorem zfr_t : frzD (.t ks ds) = .dit ks ds := rfl
theorem zs_t : st1 i (.t ks ds) ⟨ρ, μ⟩ RS = RS ⟨put ρ i (.t ks ds), μ⟩ := propext Iff.rfl
theorem zr_t : rtk (.t ks ds) ⟨ρ, μ⟩ RM = RM (.t ks ds) μ := propext Iff.rfl
theorem zTP : sTPut i φk φ Δ ⟨ρ, μ⟩ = φ ⟨ρ, μ⟩ fun r s1 => fz r s1 fun d s2 => tpk0 (get s2.ρ i) (φk s2 fun rk s3 => lk rk s3 fun dk => tyk dk fun x => tpk (get s3.ρ i) i x d s3 Δ.nx) := propext Iff.rfl
theorem ztp0 {P : Prop} : tpk0 (.t ks ds) P = P := propext Iff.rfl
theorem ztp : tpk (.t ks ds) i k d ⟨ρ, μ⟩ RS = (ks.length < sizeLine ∧ RS (if thas ks k = true then ⟨put ρ i (.t ks (trep ks ds k d)), μ⟩ else ⟨put ρ i (.t (ks ++ [k]) (ds ++ [d])), μ⟩)) := propext Iff.rfl
theorem zty_ii {a b : Int} {P : List Key → Prop} : tyk (.tup [.int a, .int b]) P = P [.inl a, .inl b] := propext Iff.rfl
theorem zEnu : iEnu φ ⟨ρ, μ⟩ RI = φ ⟨ρ, μ⟩ fun r s1 => fz r s1 fun d s2 => enuk d fun ds => RI ds s2 := propext Iff.rfl
theorem zenuk {P : List D → Prop} : enuk (.lst ds) P = P (enumD 0 ds) := propext Iff.rfl
theorem zAsg2 : sAsg2 φ γ1 γ2 Δ ⟨ρ, μ⟩ = φ ⟨ρ, μ⟩ fun r s1 => fz r s1 fun d s2 => γ1 d s2 fun s3 => γ2 d s3 Δ.nx := propext Iff.rfl
theorem xAbs_i : oAbs (.int m) RP = RP (.d (.int (absI m))) := propext Iff.rfl
theorem zIndex : eIndex φ1 φ2 ⟨ρ, μ⟩ R = φ1 ⟨ρ, μ⟩ fun r1 s1 => lk r1 s1 fun x0 => isLst x0 (φ2 s1 fun r2 s2 => lk r1 s2 fun x => lk r2 s2 fun y => oIndexS x y fun r => R r s2) := propext Iff.rfl
theorem zisLst {P : Prop} : isLst (.lst ds) P = P := propext Iff.rfl
theorem xSrtT : oSrtT (.dit ks ds) RP = (cSort (ks.map keyD) ∧ RP (.l ((ks.map keyD).mergeSort leD))) := propext Iff.rfl
theorem xIx_tl : oIx (.tpl ds) (.int m) RP = match atD ds m with
  | some d => RP (.d d)
  | none => False := propext Iff.rfl
theorem xIx_dt {a b : Int} : oIx (.dit ks ds) (.tup [.int a, .int b]) RP = match tlook ks ds [.inl a, .inl b] with
  | some d => RP (.d d)
  | none => False := propext Iff.rfl
theorem xLen_tl : oLen (.tpl ds) RP = RP (.d (.int ds.length)) := propext Iff.rfl
theorem zit_tl {P : List D → Prop} : itemsOf (.tpl ds) P = P ds := propext Iff.rfl
theorem xIn_tl : oIn f (.str x) (.tpl es) RP = (cIn (.str x) es ∧ RP (.d (.bl (f (es.any fun z => D.eq z (.str x)))))) := propext Iff.rfl
end
/-! x += e -/
def oAddI : O2 := fun x y R => match x, y with
  | .int i, .int j => R (.d (.int (i + j)))
  | _, _ => False
theorem os_ipadd {K : PySem.W.Frag} : OpS K (ipI fun i j => i + j) oAddI := fun G U H μ x y dx dy R Q b lx ly h k => by
  cases dx with
  | int i =>
    cases dy with
    | int j => cases lx.int; cases ly.int; exact ⟨i, j, rfl, rfl, k.int b h⟩
    | _ => exact h.elim
  | _ => exact h.elim
def augk : Sl → (D → Prop) → Prop
  | .d d, P => P d
  | _, _ => False
section
variable {ρ : List Sl} {μ : Mu} {i : Nat} {φ : PhiE} {Δ : DE} {d : D} {o : O2} {P : D → Prop} {m n : Int} {RP : Sl → Prop}
theorem zAug : sAug i o φ Δ ⟨ρ, μ⟩ = augk (get ρ i) fun d0 => φ ⟨ρ, μ⟩ fun r s1 => lk r s1 fun y => o d0 y fun r => st1 i r s1 Δ.nx := by
  unfold sAug augk
  cases get ρ i <;> rfl
theorem zaugk : augk (.d d) P = P d := propext Iff.rfl
theorem xAddI : oAddI (.int m) (.int n) RP = RP (.d (.int (m + n))) := propext Iff.rfl
end
def ΦPot : PhiS :=
  sRet (eLst (aCons (eLc (iE (eSl (eV 0) (pNone) (pSome (eC (.int 63))))) [1] (gN 1) (fun s R => R true s) (eUn oInt (eV 1))) (aCons (eC (.int 0)) (aCons (eC (.int 0)) (aCons (eOp oAdd (eC (.int 7919)) (eUn oLen (eSl (eV 0) (pNone) (pSome (eC (.int 63)))))) (aNil))))))
theorem pot_h0 (ns : List Int) (μ : Mu) (h : ns.length ≤ 63) : body 2 ΦPot [.lst (ns.map D.int)] μ fun r μ' => μ' = μ ∧ ∃ (ms : List Int) (x0 : Int), ms.length ≤ 63 ∧ (0 ≤ x0 ∧ x0 < 2305843009213693951) ∧ r = .l [.lst (ms.map D.int), .int 0, .int 0, .int x0] := by
  show lcL [1] ⟨[.d (.lst (ns.map D.int)), .no], μ⟩ (gN 1) (fun s R => R true s) (eUn oInt (eV 1)) _ (cutD (ns.map D.int) none (some 63)) [] ⟨[.d (.lst (ns.map D.int)), .no], μ⟩
  rw [cut_ints]
  have hl := cut_len ns none (some 63)
  refine dealer_lc _ _ _ _ rfl _ _ [] ?_ ?_
  · have : 64 < sizeLine := by decide
    simp only [List.length_nil]
    omega
  · refine ⟨show 4 ≤ sizeLine by decide, rfl, cutD ns none (some 63), 7919 + ((cutD (ns.map D.int) none (some 63)).length : Nat), by omega, ?_, rfl⟩
    rw [cut_ints, List.length_map]
    omega
end DL
/-! DL26: dicts keyed by pairs of numbers, as lists of rows; pairs in order. -/
namespace DL
open PySem PySem.Spec PyProof.Rows L2
abbrev Pl := Int × Int
def ip (p : Pl) : D := .tup [.int p.1, .int p.2]
def kP (p : Pl) : List Key := [.inl p.1, .inl p.2]
theorem kP_inj {p q : Pl} : kP p = kP q ↔ p = q := by
  constructor
  · intro h
    unfold kP at h
    injection h with h1 h2
    injection h2 with h2 h3
    exact Prod.ext (Sum.inl.inj h1) (Sum.inl.inj h2)
  · rintro rfl; rfl
theorem keyD_kP (p : Pl) : keyD (kP p) = ip p := rfl
theorem keyD_kPs (l : List Pl) : (l.map kP).map keyD = l.map ip := by rw [List.map_map]; rfl
def ltP (p q : Pl) : Prop := p.1 < q.1 ∨ (p.1 = q.1 ∧ p.2 < q.2)
instance (p q : Pl) : Decidable (ltP p q) := by unfold ltP; infer_instance
def leI2 (p q : Pl) : Bool := !decide (ltP q p)
theorem leI2_iff (p q : Pl) : leI2 p q = true ↔ ¬ ltP q p := by unfold leI2; simp
theorem lt_ip (p q : Pl) : D.lt (ip p) (ip q) = decide (ltP p q) := by
  show (if (p.1 == q.1) = true then (if (p.2 == q.2) = true then false else decide (p.2 < q.2)) else decide (p.1 < q.1)) = _
  unfold ltP
  by_cases h : p.1 = q.1
  · by_cases g : p.2 = q.2
    · simp [h, g]
    · simp [h, g]
  · simp [h]
theorem csort_ip (xs : List Pl) : cSort (xs.map ip) := by
  refine ⟨fun d hd => ?_, fun d hd e he => ?_, .inl fun d hd => ?_⟩
  · obtain ⟨x, _, rfl⟩ := List.mem_map.mp hd
    exact ⟨rfl, by show 1 ≤ 50; decide, fun z => by cases z⟩
  · obtain ⟨x, _, rfl⟩ := List.mem_map.mp hd
    obtain ⟨y, _, rfl⟩ := List.mem_map.mp he
    rfl
  · obtain ⟨x, _, rfl⟩ := List.mem_map.mp hd
    exact ⟨_, _, rfl⟩
def sortI2 (xs : List Pl) : List Pl := xs.mergeSort leI2
theorem sort_ip (xs : List Pl) : (xs.map ip).mergeSort leD = (sortI2 xs).map ip :=
  (List.map_mergeSort (r := leI2) (s := leD) (f := ip) fun p _ q _ => by unfold leI2 leD; rw [lt_ip]).symm
theorem sortI2_mem {xs : List Pl} {p : Pl} : p ∈ sortI2 xs ↔ p ∈ xs := List.mem_mergeSort
theorem sortI2_len {xs : List Pl} : (sortI2 xs).length = xs.length := List.length_mergeSort _
theorem sortI2_asc {xs : List Pl} (h : xs.Nodup) : (sortI2 xs).Pairwise ltP := by
  have p := List.pairwise_mergeSort (le := leI2) (fun a b c h1 h2 => by rw [leI2_iff] at *; unfold ltP at *; omega) (fun a b => by
    rw [Bool.or_eq_true, leI2_iff, leI2_iff]; unfold ltP; omega) xs
  have n : (sortI2 xs).Nodup := (List.mergeSort_perm _ _).nodup_iff.mpr h
  refine (p.and n).imp fun {a b} ⟨h1, h2⟩ => ?_
  rw [leI2_iff] at h1
  have : a ≠ b := h2
  unfold ltP at *
  by_cases e : a.1 = b.1
  · have : a.2 ≠ b.2 := fun z => this (Prod.ext e z)
    omega
  · omega
/-! rows -/
abbrev Rw (α : Type) := List (Pl × α)
section
variable {α : Type}
def putR (rows : Rw α) (k : Pl) (v : α) : Rw α := if k ∈ rows.map (·.1) then rows.map (fun r => if r.1 = k then (r.1, v) else r) else rows ++ [(k, v)]
theorem thas_rw (rows : Rw α) (k : Pl) : thas (rows.map fun r => kP r.1) (kP k) = decide (k ∈ rows.map (·.1)) := by
  induction rows with
  | nil => rfl
  | cons r rows ih =>
    show (decide (kP r.1 = kP k) || thas (rows.map fun r => kP r.1) (kP k)) = _
    rw [ih]
    by_cases e : r.1 = k
    · simp [e]
    · have e' : ¬ k = r.1 := fun z => e z.symm
      simp [e, e', kP_inj]
theorem trep_rw (f : α → D) (rows : Rw α) (k : Pl) (v : α) : trep (rows.map fun r => kP r.1) (rows.map fun r => f r.2) (kP k) (f v) = (rows.map (fun r => if r.1 = k then (r.1, v) else r)).map fun r => f r.2 := by
  induction rows with
  | nil => rfl
  | cons r rows ih =>
    show (if kP r.1 = kP k then f v else f r.2) :: trep (rows.map fun r => kP r.1) (rows.map fun r => f r.2) (kP k) (f v) = _
    rw [ih]
    by_cases e : r.1 = k
    · simp [e]
    · simp [e, kP_inj]
theorem keys_rep (rows : Rw α) (k : Pl) (v : α) : (rows.map (fun r => if r.1 = k then (r.1, v) else r)).map (·.1) = rows.map (·.1) := by
  rw [List.map_map]
  refine List.map_congr_left fun r _ => ?_
  show (if r.1 = k then (r.1, v) else r).1 = r.1
  split <;> rfl
/-- the dict of rows -/
def rT (f : α → D) (rows : Rw α) : Sl := .t (rows.map fun r => kP r.1) (rows.map fun r => f r.2)
theorem put_rw (f : α → D) (rows : Rw α) (k : Pl) (v : α) : (if thas (rows.map fun r => kP r.1) (kP k) = true then Sl.t (rows.map fun r => kP r.1) (trep (rows.map fun r => kP r.1) (rows.map fun r => f r.2) (kP k) (f v))
    else Sl.t ((rows.map fun r => kP r.1) ++ [kP k]) ((rows.map fun r => f r.2) ++ [f v])) = rT f (putR rows k v) := by
  unfold rT putR
  rw [thas_rw]
  by_cases h : k ∈ rows.map (·.1)
  · rw [if_pos (by simpa using h), if_pos h, trep_rw]
    congr 1
    have := congrArg (List.map kP) (keys_rep rows k v)
    simp only [List.map_map] at this ⊢
    exact this.symm
  · rw [if_neg (by simpa using h), if_neg h]
    simp
theorem putR_mem {rows : Rw α} {k : Pl} {v : α} {r : Pl × α} (h : r ∈ putR rows k v) : r = (k, v) ∨ r ∈ rows := by
  unfold putR at h
  split at h
  · obtain ⟨q, hq, e⟩ := List.mem_map.mp h
    by_cases c : q.1 = k
    · rw [if_pos c] at e; exact .inl (by rw [← e, c])
    · rw [if_neg c] at e; exact .inr (e ▸ hq)
  · rcases List.mem_append.mp h with h | h
    · exact .inr h
    · exact .inl (List.mem_singleton.mp h)
theorem putR_nodup {rows : Rw α} {k : Pl} {v : α} (h : (rows.map (·.1)).Nodup) : ((putR rows k v).map (·.1)).Nodup := by
  unfold putR
  split
  · rw [keys_rep]; exact h
  · rename_i hk
    rw [List.map_append, List.nodup_append]
    refine ⟨h, by simp, fun a ha b hb e => ?_⟩
    have hb : b = k := by simpa using hb
    exact hk (hb ▸ e ▸ ha)
theorem putR_len {rows : Rw α} {k : Pl} {v : α} : (putR rows k v).length ≤ rows.length + 1 := by
  unfold putR
  split
  · simp
  · simp
theorem tlook_rw (f : α → D) : ∀ (rows : Rw α) (k : Pl), tlook (rows.map fun r => kP r.1) (rows.map fun r => f r.2) (kP k) = (rows.find? fun r => decide (r.1 = k)).map fun r => f r.2
  | [], k => rfl
  | r :: rows, k => by
    show (if kP r.1 = kP k then some (f r.2) else tlook (rows.map fun r => kP r.1) (rows.map fun r => f r.2) (kP k)) = _
    rw [tlook_rw f rows k, List.find?_cons]
    by_cases e : r.1 = k
    · rw [if_pos (kP_inj.mpr e)]; simp [e]
    · rw [if_neg fun z => e (kP_inj.mp z)]; simp [e]
theorem find_rw {rows : Rw α} {k : Pl} (h : k ∈ rows.map (·.1)) : ∃ v, (rows.find? fun r => decide (r.1 = k)) = some (k, v) ∧ (k, v) ∈ rows := by
  obtain ⟨r, hr, e⟩ := List.mem_map.mp h
  cases hf : rows.find? fun r => decide (r.1 = k) with
  | none =>
    rw [List.find?_eq_none] at hf
    exact absurd (by simpa using e) (hf r hr)
  | some q =>
    have := List.find?_some hf
    have m := List.mem_of_find?_eq_some hf
    have e : q.1 = k := by simpa using this
    exact ⟨q.2, by rw [← e], by rw [← e]; exact m⟩
theorem putR_get {rows : Rw α} {k : Pl} {u v : α} (h : (k, u) ∈ putR rows k v) : u = v := by
  unfold putR at h
  split at h
  · obtain ⟨q, hq, e⟩ := List.mem_map.mp h
    by_cases c : q.1 = k
    · rw [if_pos c] at e; exact (congrArg Prod.snd e).symm
    · rw [if_neg c] at e; exact absurd (by rw [e]) c
  · rename_i hk
    rcases List.mem_append.mp h with h | h
    · exact absurd (List.mem_map.mpr ⟨_, h, rfl⟩) hk
    · exact congrArg Prod.snd (List.mem_singleton.mp h)
theorem putR_len_eq {rows : Rw α} {k : Pl} {v : α} (h : k ∈ rows.map (·.1)) : (putR rows k v).length = rows.length := by
  unfold putR
  rw [if_pos h, List.length_map]
theorem put_has {rows : Rw α} {k : Pl} {v : α} : k ∈ (putR rows k v).map (·.1) := by
  unfold putR
  split
  · rw [keys_rep]; assumption
  · simp
end
/-- the dict of rows, as data -/
def rDit {α : Type} (f : α → D) (rows : Rw α) : D := .dit (rows.map fun r => kP r.1) (rows.map fun r => f r.2)
section
variable {α : Type} {f : α → D} {rows : Rw α} {ρ : List Sl} {μ : Mu} {i : Nat} {a b : Int} {s : S}
theorem zDicR {R : Sl → S → Prop} : eDicT ⟨ρ, μ⟩ R = R (rT f []) ⟨ρ, μ⟩ := propext Iff.rfl
theorem zvR {R : Sl → S → Prop} : vR (rT f rows) i R s = R (.b i) s := propext Iff.rfl
theorem zlkR {K : D → Prop} : lk (rT f rows) s K = K (rDit f rows) := propext Iff.rfl
theorem zlkSR {K : D → Prop} : lkS (rT f rows) K = K (rDit f rows) := propext Iff.rfl
theorem zfzR {ka : D → S → Prop} : fz (rT f rows) s ka = ka (rDit f rows) s := propext Iff.rfl
theorem zsR {RS : S → Prop} : st1 i (rT f rows) ⟨ρ, μ⟩ RS = RS ⟨put ρ i (rT f rows), μ⟩ := propext Iff.rfl
theorem zrtR {RM : Sl → Mu → Prop} : rtk (rT f rows) ⟨ρ, μ⟩ RM = RM (rT f rows) μ := propext Iff.rfl
theorem ztp0R {P : Prop} : tpk0 (rT f rows) P = P := propext Iff.rfl
theorem ztpI {rows : Rw Int} {v : Int} {RS : S → Prop} : tpk (rT D.int rows) i [.inl a, .inl b] (.int v) ⟨ρ, μ⟩ RS = (rows.length < sizeLine ∧ RS ⟨put ρ i (rT D.int (putR rows (a, b) v)), μ⟩) := by
  have e := put_rw D.int rows (a, b) v
  rw [← e]
  unfold rT
  rw [ztp]
  rw [List.length_map]
  show (_ ∧ RS (if thas _ (kP (a, b)) = true then _ else _)) = _
  split <;> rfl
theorem xIxR {R : Sl → Prop} : oIx (rDit f rows) (.tup [.int a, .int b]) R = match (rows.find? fun r => decide (r.1 = (a, b))).map fun r => f r.2 with
  | some d => R (.d d)
  | none => False := by
  rw [← tlook_rw f rows (a, b)]
  unfold rDit
  rw [xIx_dt]
  rfl
theorem xSrtR {R : Sl → Prop} : oSrtT (rDit f rows) R = R (.l ((sortI2 (rows.map (·.1))).map ip)) := by
  unfold rDit
  rw [xSrtT]
  have e : (rows.map fun r => kP r.1).map keyD = (rows.map (·.1)).map ip := by simp only [List.map_map]; rfl
  rw [e, sort_ip, eq_true (csort_ip _), true_and]
end
theorem pickD {b : Int} {ds : List D} (h0 : 0 ≤ b) (h1 : b < ds.length) : ∃ d ∈ ds, atD ds b = some d := by
  obtain ⟨n, rfl⟩ : ∃ n : Nat, b = n := ⟨b.toNat, by omega⟩
  have h : n < ds.length := by omega
  exact ⟨ds[n], List.getElem_mem h, List.getElem?_eq_getElem h⟩
end DL
/-! DL27: zip of two lists or tuples; isinstance of a caught error and a pair of classes. -/
namespace DL
open PySem PySem.Spec PyProof.Rows L2
def zipD : List D → List D → List D
  | x :: xs, y :: ys => .tup [x, y] :: zipD xs ys
  | _, _ => []
theorem zipD_len : ∀ (xs ys : List D), (zipD xs ys).length = min xs.length ys.length
  | [], ys => by simp [zipD]
  | x :: xs, [] => by simp [zipD]
  | x :: xs, y :: ys => by
    show (zipD xs ys).length + 1 = min (xs.length + 1) (ys.length + 1)
    rw [zipD_len xs ys]; omega
theorem zipD_get : ∀ (xs ys : List D) (i : Nat) (x y : D), xs[i]? = some x → ys[i]? = some y → (zipD xs ys)[i]? = some (.tup [x, y])
  | [], _, i, x, y, h, _ => by simp at h
  | _ :: _, [], i, x, y, _, h => by simp at h
  | a :: xs, b :: ys, 0, x, y, h, g => by cases h; cases g; rfl
  | a :: xs, b :: ys, i + 1, x, y, h, g => zipD_get xs ys i x y h g
section
variable {K : PySem.W.Frag} {G U H : Hp} {ds es : List D} {xs ys : List V} {a b : Addr}
theorem gives_zipL (h : SqL K G a xs) (h' : SqL K G b ys) (hd : DVs K G ds xs) (he : DVs K G es ys) : Gives K (Itz K a b) G (zipD ds es) := by
  have l1 := hd.len
  have l2 := he.len
  refine ⟨fun i H G' U μ hi e bb => ?_, fun i H G' U μ x H' hi e bb y => ?_, fun H G' U μ e bb => ?_⟩
  · rw [zipD_len] at hi
    have i1 : i < xs.length := by omega
    have i2 : i < ys.length := by omega
    exact ⟨xs, ys, xs[i], ys[i], bb.sub.seq (e.seq h), bb.sub.seq (e.seq h'), List.getElem?_eq_getElem i1, List.getElem?_eq_getElem i2⟩
  · obtain ⟨T, x', y', rfl, hT, rfl, k1, k2⟩ := y
    have hi0 := hi
    rw [zipD_len] at hi0
    have i1 : i < ds.length := by omega
    have i2 : i < es.length := by omega
    obtain ⟨v, hv, dv⟩ := hd.get (List.getElem?_eq_getElem i1)
    obtain ⟨u, hu, du⟩ := he.get (List.getElem?_eq_getElem i2)
    have := (k1 xs (bb.sub.seq (e.seq h))).symm.trans hv
    injection this with this
    subst this
    have := (k2 ys (bb.sub.seq (e.seq h'))).symm.trans hu
    injection this with this
    subst this
    have gT : G' T = none := bb.sub.free hT
    refine ⟨upd G' T (.tup [x', y']), same_new gT, ?_, fun σ s hμ hs => (hs.newD hT).2⟩
    have e2 : (zipD ds es)[i] = .tup [ds[i], es[i]] := by
      have := zipD_get ds es i _ _ (List.getElem?_eq_getElem i1) (List.getElem?_eq_getElem i2)
      rw [List.getElem?_eq_getElem hi] at this
      exact Option.some.inj this
    rw [e2]
    exact ⟨T, _, rfl, upd_same, _, _, rfl, (dv.mono e).mono (same_new gT), _, _, rfl, (du.mono e).mono (same_new gT), rfl⟩
  · exact ⟨xs, ys, bb.sub.seq (e.seq h), bb.sub.seq (e.seq h'), by rw [zipD_len]; omega⟩
theorem gives_zipT (h : SqT K G a xs) (h' : SqT K G b ys) (hd : DVs K G ds xs) (he : DVs K G es ys) : Gives K (RZ.ItzT K a b) G (zipD ds es) := by
  have l1 := hd.len
  have l2 := he.len
  refine ⟨fun i H G' U μ hi e bb => ?_, fun i H G' U μ x H' hi e bb y => ?_, fun H G' U μ e bb => ?_⟩
  · rw [zipD_len] at hi
    have i1 : i < xs.length := by omega
    have i2 : i < ys.length := by omega
    exact ⟨xs, ys, xs[i], ys[i], same_t bb.sub (same_t e h), same_t bb.sub (same_t e h'), List.getElem?_eq_getElem i1, List.getElem?_eq_getElem i2⟩
  · obtain ⟨T, x', y', rfl, hT, rfl, k1, k2⟩ := y
    have hi0 := hi
    rw [zipD_len] at hi0
    have i1 : i < ds.length := by omega
    have i2 : i < es.length := by omega
    obtain ⟨v, hv, dv⟩ := hd.get (List.getElem?_eq_getElem i1)
    obtain ⟨u, hu, du⟩ := he.get (List.getElem?_eq_getElem i2)
    have := (k1 xs (same_t bb.sub (same_t e h))).symm.trans hv
    injection this with this
    subst this
    have := (k2 ys (same_t bb.sub (same_t e h'))).symm.trans hu
    injection this with this
    subst this
    have gT : G' T = none := bb.sub.free hT
    refine ⟨upd G' T (.tup [x', y']), same_new gT, ?_, fun σ s hμ hs => (hs.newD hT).2⟩
    have e2 : (zipD ds es)[i] = .tup [ds[i], es[i]] := by
      have := zipD_get ds es i _ _ (List.getElem?_eq_getElem i1) (List.getElem?_eq_getElem i2)
      rw [List.getElem?_eq_getElem hi] at this
      exact Option.some.inj this
    rw [e2]
    exact ⟨T, _, rfl, upd_same, _, _, rfl, (dv.mono e).mono (same_new gT), _, _, rfl, (du.mono e).mono (same_new gT), rfl⟩
  · exact ⟨xs, ys, same_t bb.sub (same_t e h), same_t bb.sub (same_t e h'), by rw [zipD_len]; omega⟩
end
def zipk : List D → (List D → Prop) → Prop
  | [.lst ds, .lst es], k => k (zipD ds es)
  | [.tup ds, .tup es], k => k (zipD ds es)
  | _, _ => False
def iZip (ψ : PhiA) : PhiI := fun s P => ψ s fun ds s1 => zipk ds fun es => P es s1
section
variable {X : Cx} {e e2 : Expr} {ψ : PhiA} {p pos tpos : Pos} {elts : List Expr} {kk : Nat}
theorem di_zip (hg : Gl X "zip") (hm : X.mg "zip" = none) (h : PA X [e, e2] (liftA X.K ψ)) (hs : starEach [e, e2] X.env = (false, eval e X.env) :: starEach [e2] X.env := by rfl) (hpl : (backTo pos (starEach [e2] X.env)).any (·.1) = false := by rfl) :
    PI X (.Tuple elts kk tpos) (.Call (.Name "zip" p) [e, e2] [] pos) (liftI X.K (iZip ψ)) :=
  (RZ.pi_zipA hg hm h hs hpl).imp fun σ H R ⟨G, U, s, P, hst, hr, k⟩ => by
    refine ⟨G, U, s, fun ds s1 => zipk ds fun es => P es s1, hst, hr, fun ds s1 G1 H1 vs q1 e1 hs1 dv => ?_⟩
    have q1 : zipk ds (fun es => P es s1) := q1
    unfold zipk at q1
    split at q1
    · obtain ⟨v, r, rfl, dd, v2, r2, rfl, dd2, rfl⟩ := dv
      obtain ⟨a, xs, rfl, h1, h2⟩ := dd
      obtain ⟨b, ys, rfl, h3, h4⟩ := dd2
      exact ⟨a, b, xs, ys, rfl, .inl ⟨hs1.base.sub.seq h1, hs1.base.sub.seq h3, k _ s1 G1 H1 _ q1 e1 hs1 (gives_zipL h1 h3 h2 h4)⟩⟩
    · obtain ⟨v, r, rfl, dd, v2, r2, rfl, dd2, rfl⟩ := dv
      obtain ⟨a, xs, rfl, h1, h2⟩ := dd
      obtain ⟨b, ys, rfl, h3, h4⟩ := dd2
      exact ⟨a, b, xs, ys, rfl, .inr ⟨SqT.of (hs1.base.sub _ _ h1), SqT.of (hs1.base.sub _ _ h3), k _ s1 G1 H1 _ q1 e1 hs1 (gives_zipT (SqT.of h1) (SqT.of h3) h2 h4)⟩⟩
    · exact q1.elim
end
/-! isinstance(n, (C1, C2)), n the error in hand -/
def rIsET (K : PySem.W.Frag) (D a : Addr) : List V → Hp → VK → Prop := fun xs H Q => ∃ (tp : Addr) (cs : List V) (us : List Value) (b : Bool), xs = [.ref a, .ref tp] ∧ H tp = some (.tup cs) ∧ Paired ClsV cs us ∧ PySem.W.kitAny K (.ref D) us = some b ∧ Q (.bl b) H
theorem call_isET {X : Cx} {a D : Addr} {oe : Obj} {pn : List (Addr × Obj)} (C : ExcC X.K D) (hz : Zc (.ref D) none oe) (hf : ∃ vs, oe.data = .fields vs) : CallR (X.suite a ((a, oe) :: pn)) (.builtin "isinstance") (rIsET X.K D a) := by
  intro pins s σ H xs us Q I r h
  obtain ⟨tp, cs, ws, b, rfl, hT, k, e, q⟩ := h
  cases r with
  | cons rx rr =>
    cases rr with
    | cons rt rr =>
      cases rr
      cases rx
      cases rt
      obtain ⟨hget, _⟩ := I.pin (a, oe) (List.mem_append.mpr (.inl List.mem_cons_self))
      obtain ⟨vs, hv⟩ := hf
      have J : PySem.W.InstAt s.heap a oe D none := by
        obtain ⟨oc, od, oda, osl⟩ := oe
        obtain ⟨h1, h2⟩ := hz
        dsimp only at h1 h2 hv
        subst h1 h2 hv
        exact ⟨hget, rfl, rfl, trivial⟩
      obtain ⟨_, its, rv, o, h1, h2, n, h3⟩ := (show ObjOk _ _ H s.heap tp (.tup cs) from I.hok tp _ hT)
      have e3 := ClsV.all k rv
      subst e3
      obtain ⟨oc, od, dt, sl⟩ := o
      simp only at h2 h3
      subst h2 h3
      exact PySem.W.kia_tup (PySem.W.handS_kitx_exc C.hg C.hk C.hs C.hd C.ha C.hn C.ht C.hm) I.kIn J h1 e (fun z => nomatch z) fun tk => ⟨.bl b, H, I.kept (t' := tk) fun _ _ z => z, rfl, q⟩
theorem de_isET {X : Cx} {pos : Pos} {i : Nat} {e : Ex} {a C : Addr} {oe : Obj} {pn : List (Addr × Obj)} {tb : List (Str × Bool)} {x : Str} {nm c1 c2 : Expr} {p : Pos} {V1 V2 : V} {v1 v2 : Value} {kk : Nat} {tpos : Pos} (mC : X.mg e.c = some (.ref C)) (hz : Zc (.ref C) none oe) (hv : ∃ vs, oe.data = .fields vs)
    (hk : AllL (fun y b => ∀ D, X.mg y = some (.ref D) → ExcC X.K D ∧ PySem.W.kitAny X.K (.ref D) [v1, v2] = some b) tb) (k1 : ClsV V1 v1) (k2 : ClsV V2 v2) (hx : x = "isinstance") (hg : Gl (X.suite a ((a, oe) :: pn)) x) (hm : X.mg x = none)
    (he : PE (X.suite a ((a, oe) :: pn)) nm (tVar i)) (h1 : PE (X.suite a ((a, oe) :: pn)) c1 (tC V1)) (h2 : PE (X.suite a ((a, oe) :: pn)) c2 (tC V2))
    (hs3 : starEach [c1, c2] X.env = [(false, eval c1 X.env), (false, eval c2 X.env)] := by rfl) (hs4 : starEach [c2] X.env = [(false, eval c2 X.env)] := by rfl)
    (hs : starEach [nm, .Tuple [c1, c2] kk tpos] X.env = [(false, eval nm X.env), (false, eval (.Tuple [c1, c2] kk tpos) X.env)] := by rfl) (hs2 : starEach [.Tuple [c1, c2] kk tpos] X.env = [(false, eval (.Tuple [c1, c2] kk tpos) X.env)] := by rfl) : PE (X.suite a ((a, oe) :: pn)) (.Call (.Name x p) [nm, .Tuple [c1, c2] kk tpos] [] pos) (liftE X.K (eIsE e a i tb)) := by
  subst hx
  by_cases hC : ExcC X.K C
  · refine (pe_callB (call_isET hC hz hv) hg hm boot_isinstance (pa_cons he (pa_cons (pe_tup (pa_cons h1 (pa_cons h2 pa_nil hs4) (by rw [hs4]; exact hs3))) pa_nil hs2) (by rw [hs2]; exact hs)) (by decide) (by decide) (by rw [hs2]; exact hs) (by
      show (backTo pos (starEach [.Tuple [c1, c2] kk tpos] X.env)).any (·.1) = false
      rw [hs2]; rfl)).imp fun σ H Q ⟨G, U, s, R, hst, ⟨h1, h2⟩, k⟩ => ?_
    have hsl := hst.slot i
    rw [h1] at hsl
    obtain ⟨v, e1, e2⟩ := hsl
    have e2 : v = .ref a := e2
    subst e2
    cases ht : tb.lookup e.c with
    | none => rw [ht] at h2; exact h2.elim
    | some b =>
      rw [ht] at h2
      refine ⟨.ref a, of_join e1, (show 2 ≤ sizeLine by decide), fun T hT => ⟨T, [V1, V2], [v1, v2], b, rfl, upd_same, .cons k1 (.cons k2 .nil), (hk.get _ _ ht C mC).2, ?_⟩⟩
      have gT : G T = none := hst.base.sub.free hT
      exact k _ s _ _ _ h2 (same_new gT) (hst.newD hT).2 rfl
  · refine ⟨fun pins s σ H Q I ⟨G, U, s', R, hst, ⟨h1, h2⟩, k⟩ => ?_⟩
    cases ht : tb.lookup e.c with
    | none => rw [ht] at h2; exact h2.elim
    | some b => exact absurd (hk.get _ _ ht C mC).1 hC
section
variable {ρ : List Sl} {μ : Mu} {RI : List D → S → Prop} {ψ : PhiA} {ds es : List D} {P : List D → Prop}
theorem zZip : iZip ψ ⟨ρ, μ⟩ RI = ψ ⟨ρ, μ⟩ fun ds s1 => zipk ds fun es => RI es s1 := propext Iff.rfl
theorem zzip_l : zipk [.lst ds, .lst es] P = P (zipD ds es) := propext Iff.rfl
theorem zzip_t : zipk [.tup ds, .tup es] P = P (zipD ds es) := propext Iff.rfl
end
end DL
/-! DL28: known lists; x.setdefault(k, []).append(v), tuple of a known list; dict comprehensions; list(range). -/
namespace DL
open PySem PySem.Spec PyProof.Rows L2
def updM (μ : Mu) (p : Addr) (o : Ob) : Mu := fun b => if b = p then some o else μ b
theorem updM_same {μ : Mu} {p : Addr} {o : Ob} : updM μ p o p = some o := if_pos rfl
theorem updM_ne {μ : Mu} {p b : Addr} {o : Ob} (h : b ≠ p) : updM μ p o b = μ b := if_neg h
section
variable {K : PySem.W.Frag} {G U H : Hp} {σ : L2.St} {s : S} {p a : Addr} {i : Nat}
/-- a new list becomes known -/
theorem St.newM (h : DL.St K G U H σ s) (hp : H p = none) : DL.St K G U (upd H p (.lst [])) σ ⟨s.ρ, updM s.μ p (.sl (.l []))⟩ := by
  obtain ⟨h1, h2, h3, h4, h5⟩ := h.new (o := .lst []) hp
  refine ⟨⟨h1.base.sub, h1.base.usub, fun b o e => ?_, fun b o e => ?_, h1.base.bx⟩, h1.len, fun j => ?_, h1.dis⟩
  · obtain ⟨q1, q2⟩ := h1.base.ug b o e
    refine ⟨q1, ?_⟩
    dsimp only
    rw [updM_ne]
    · exact q2
    · intro z; rw [z, h3] at e; cases e
  · dsimp only at e
    by_cases hb : b = p
    · subst hb
      rw [updM_same] at e
      cases e
      exact ⟨h2, [], upd_same, rfl⟩
    · rw [updM_ne hb] at e
      exact h1.base.mu b o e
  · have hs := h1.slot j
    cases hx : (get s.ρ j).own with
    | true =>
      obtain ⟨c, e1, oa, q1, q2, q3, q4⟩ := h1.ownAt hx
      refine .ofOwn ⟨c, join_of e1, q1, q2, ?_, q4⟩
      dsimp only
      rw [updM_ne]
      · exact q3
      · intro z; subst z; exact h5 j oa
    | false =>
      cases e' : get s.ρ j with
      | no => exact trivial
      | d d => rw [e'] at hs; exact hs
      | b m => rw [e'] at hs; exact hs.elim
      | l ds => rw [e'] at hx; cases hx
      | k ks ds => rw [e'] at hx; cases hx
      | t ks ds => rw [e'] at hx; cases hx
/-- a known list grows -/
theorem St.appM {ds : List D} {d : D} {v : V} (h : DL.St K G U H σ s) (hm : s.μ p = some (.sl (.l ds))) (dv : DV K G d v) : ∃ xs, H p = some (.lst xs) ∧ DVs K G ds xs ∧ DL.St K G U (upd H p (.lst (xs ++ [v]))) σ ⟨s.ρ, updM s.μ p (.sl (.l (ds ++ [d])))⟩ := by
  obtain ⟨g0, xs, hx, dx⟩ := h.base.mu p _ hm
  have hU : U p = none := by
    cases q : U p with
    | none => rfl
    | some o => have := (h.base.ug p o q).2; rw [hm] at this; cases this
  refine ⟨xs, hx, dx, ⟨⟨fun b o e => ?_, fun b o e => ?_, fun b o e => ?_, fun b o e => ?_, h.base.bx⟩, h.len, fun j => ?_, h.dis⟩⟩
  · rw [upd_ne (ne_of_none e g0)]; exact h.base.sub b o e
  · rw [upd_ne (ne_of_none e hU)]; exact h.base.usub b o e
  · obtain ⟨q1, q2⟩ := h.base.ug b o e
    refine ⟨q1, ?_⟩
    dsimp only
    rw [updM_ne (ne_of_none e hU)]
    exact q2
  · dsimp only at e
    by_cases hb : b = p
    · subst hb
      rw [updM_same] at e
      cases e
      exact ⟨g0, xs ++ [v], upd_same, dx.app (DVs.one dv)⟩
    · rw [updM_ne hb] at e
      obtain ⟨q1, q2⟩ := h.base.mu b o e
      exact ⟨q1, q2.mono (Same.refl _) (by rw [upd_ne hb])⟩
  · have hs := h.slot j
    cases hx : (get s.ρ j).own with
    | true =>
      obtain ⟨c, e1, oa, q1, q2, q3, q4⟩ := h.ownAt hx
      have hc : c ≠ p := fun z => by subst z; rw [hm] at q3; cases q3
      refine .ofOwn ⟨c, join_of e1, q1, q2, ?_, q4.mono (Same.refl _) (by rw [upd_ne hc])⟩
      dsimp only
      rw [updM_ne hc]
      exact q3
    | false =>
      cases e' : get s.ρ j with
      | no => exact trivial
      | d d => rw [e'] at hs; exact hs
      | b m => rw [e'] at hs; exact hs.elim
      | l ds => rw [e'] at hx; cases hx
      | k ks ds => rw [e'] at hx; cases hx
      | t ks ds => rw [e'] at hx; cases hx
end
/-! x.setdefault(k, []).append(v), x the slot's own dict -/
def appM (a : Addr) (φ : PhiE) (Δ : DE) : S → Prop := fun s => φ s fun r s2 => fz r s2 fun d s3 => match s3.μ a with
  | some (.sl (.l xs)) => xs.length < sizeLine ∧ Δ.nx ⟨s3.ρ, updM s3.μ a (.sl (.l (xs ++ [d])))⟩
  | _ => False
def setd1 (i : Nat) (φ : PhiE) (Δ : DE) (x : Key) (ks : List Key) (ds : List D) (s1 : S) : Prop := match dlook ks ds x with
  | some (.ref a) => (∃ xs, s1.μ a = some (.sl (.l xs))) ∧ appM a φ Δ s1
  | none => dhas ks x = false ∧ ∀ a, s1.μ a = none → appM a φ Δ ⟨put s1.ρ i (.k (ks ++ [x]) (ds ++ [.ref a])), updM s1.μ a (.sl (.l []))⟩
  | _ => False
def sSetd (i : Nat) (φk φ : PhiE) : PhiS := fun Δ s => match get s.ρ i with
  | .k _ _ => φk s fun rk s1 => lk rk s1 fun dk => match keyOf dk with
    | some x => match get s1.ρ i with
      | .k ks ds => ks.length < sizeLine ∧ setd1 i φ Δ x ks ds s1
      | _ => False
    | none => False
  | _ => False
section
variable {X : Cx} {i : Nat} {o e1 e : Expr} {φk φ : PhiE} {apos cpos apos2 cpos2 lpos pos : Pos}
theorem appM_ok {E : Ends} {Δ : DE} {σ : L2.St} {G U H : Hp} {s : S} {a : Addr} (hst : DL.St X.K G U H σ s) (k : EOk X.K G U Δ E) (hm : ∃ ds, s.μ a = some (.sl (.l ds))) (hr : appM a φ Δ s) :
    tyV X.K "list" (.ref a) H ∧ tCons (liftE X.K φ) tNil σ H fun xs H2 => rAppend (.ref a) xs H2 fun _ H3 => E.nx σ H3 := by
  obtain ⟨ds, hm⟩ := hm
  obtain ⟨g0, xs, hx, dx⟩ := hst.base.mu a _ hm
  refine ⟨.inl ⟨rfl, xs, SqL.of hx⟩, G, U, s, _, hst, hr, fun r s2 G2 H2 v q e2 hs2 hv2 => ?_⟩
  obtain ⟨G3, e3, hs3, d3⟩ := frz_ok hs2 hv2
  have q : (match (frz s2 r).2.μ a with
    | some (.sl (.l xs)) => xs.length < sizeLine ∧ Δ.nx ⟨(frz s2 r).2.ρ, updM (frz s2 r).2.μ a (.sl (.l (xs ++ [(frz s2 r).1])))⟩
    | _ => False) := q
  split at q
  · rename_i ys hm3
    obtain ⟨us, hu, du, hst'⟩ := hs3.appM hm3 d3
    refine ⟨a, us, v, rfl, rfl, hu, by rw [← du.len]; exact q.1, ?_⟩
    exact k.nx _ G3 _ σ q.2 (e2.trans e3) hst'
  · exact q.elim
theorem ds_setd (ho : PE X o (tVar i)) (hk : PE X e1 (liftE X.K φk)) (hv : PE X e (liftE X.K φ)) (m : M2 X o "setdefault" apos e1 (.List [] lpos) cpos)
    (hbase : attributeBase (.Call (.Attribute o "setdefault" apos) [e1, .List [] lpos] [] cpos) "append" X.env (eval (.Call (.Attribute o "setdefault" apos) [e1, .List [] lpos] [] cpos) X.env) = eval (.Call (.Attribute o "setdefault" apos) [e1, .List [] lpos] [] cpos) X.env := by rfl)
    (hfew : ((backTo cpos2 (starEach [e] X.env)).all (fun x => !x.1) && (backToKw cpos2 (keywordEach [] X.env)).all (fun x => x.1.isSome) && decide ([e].length + ([] : List Keyword).length + (if ([] : List Keyword).isEmpty then 0 else 1) < 30)) = true := by rfl)
    (hline : (apos2.endLine == cpos2.line) = true := by rfl) (hs : starEach [e] X.env = [(false, eval e X.env)] := by rfl)
    (hsw : swapsWith (.Call (.Attribute (.Call (.Attribute o "setdefault" apos) [e1, .List [] lpos] [] cpos) "append" apos2) [e] [] cpos2) none pos.line X.env = pure false := by rfl) :
    PS X (.Expr (.Call (.Attribute (.Call (.Attribute o "setdefault" apos) [e1, .List [] lpos] [] cpos) "append" apos2) [e] [] cpos2) pos) (liftS X.K (sSetd i φk φ)) :=
  (ps_expr (pe_bm PySem.F.plainAttrs_list PySem.F.slot_list_append PySem.F.type_list_append mt_append (pe_dsetd ho hk (pe_lst pa_nil) m) (pa_cons hv pa_nil (by rw [hs] <;> rfl)) hbase hfew hline (by rw [hs] <;> rfl) (by rfl)) hsw).imp fun E σ H ⟨G, U, s, Δ, hst, hr, k⟩ => by
    unfold sSetd at hr
    cases e0 : get s.ρ i with
    | k ks0 ds0 =>
      rw [e0] at hr
      obtain ⟨a, xs, q1, q2, q3, q4, q5⟩ := own_thereK hst e0
      refine ⟨.ref a, q1, a, rfl, .inl ⟨_, .inl q3⟩, G, U, s, _, hst, hr, fun rk s1 G1 H1 vk r1 e1' hs1 hv1 => ?_⟩
      obtain ⟨G2, e2, hs2, pn⟩ := pin_ok hs1 hv1
      rw [← pin_lk] at r1
      obtain ⟨dk, lx, r1⟩ := lk_ok hs2 pn r1
      cases ek : keyOf dk with
      | none => rw [ek] at r1; exact r1.elim
      | some x =>
        rw [ek] at r1
        have r1 : (match get s1.ρ i with
          | .k ks ds => ks.length < sizeLine ∧ setd1 i φ Δ x ks ds s1
          | _ => False) := r1
        cases e4 : get s1.ρ i with
        | k ks ds =>
          rw [e4] at r1
          obtain ⟨hlen, r1⟩ := r1
          refine ⟨by show 0 ≤ sizeLine; exact Nat.zero_le _, fun z hz => ?_⟩
          obtain ⟨n1, n2, n3, n4, n5⟩ := hs2.new (o := .lst []) hz
          obtain ⟨a', us, g1, g2, g3, g4, g5⟩ := own_thereK n1 e4
          have : a' = a := by
            have z := q1.symm.trans g1
            injection z with z
            injection z with z
            injection z with z
            exact z.symm
          subst this
          have hl2 : (ks.zip us).length < sizeLine := by rw [List.length_zip]; omega
          obtain ⟨lk1, lk2⟩ := dlook_ok (x := x) g4 g5
          refine ⟨ks.zip us, x, g3, keyOf_ok lx ek, hl2, fun v hv' => ?_, fun hv' => ?_⟩
          · unfold setd1 at r1
            cases ed : dlook ks ds x with
            | none => rw [lk2 ed] at hv'; cases hv'
            | some d =>
              obtain ⟨v', w1, w2⟩ := lk1 d ed
              rw [w1] at hv'
              cases hv'
              rw [ed] at r1
              cases d with
              | ref b =>
                have w2 : v = .ref b := w2
                subst w2
                exact appM_ok n1 (k.mono (e1'.trans e2)) r1.1 r1.2
              | _ => exact r1.elim
          · unfold setd1 at r1
            cases ed : dlook ks ds x with
            | some d =>
              obtain ⟨v', w1, w2⟩ := lk1 d ed
              rw [w1] at hv'; cases hv'
            | none =>
              rw [ed] at r1
              obtain ⟨hno, r1⟩ := r1
              have nm := hs2.newM hz
              obtain ⟨ws, y1, y2, y3⟩ := dput_ok (K := X.K) (G := G2) (y := .ref z) (w := .ref z) rfl (x := x) (ks := ks) (ds := ds) g4 g5
              rw [hno] at y1 y2 y3
              simp only [Bool.false_eq_true, if_false] at y1 y2 y3
              have st2 := nm.wr (i := i) (a := a') (o := .dK (putK (ks.zip us) x (.ref z))) (x := .k (ks ++ [x]) (ds ++ [.ref z])) g2 ⟨ws, by rw [upd_same, y1], y2, y3⟩
              have := r1 z n4
              exact appM_ok st2 (k.mono (e1'.trans e2)) ⟨[], updM_same⟩ this
        | _ => rw [e4] at r1; exact r1.elim
    | _ => rw [e0] at hr; exact hr.elim
end
/-! tuple(e), e a known list -/
def tupM (R : Sl → S → Prop) : Sl → S → Prop
  | .d (.ref a), s => match s.μ a with
    | some (.sl (.l ds)) => R (.d (.tup ds)) s
    | _ => False
  | _, _ => False
def eTupM (φ : PhiE) : PhiE := fun s R => φ s (tupM R)
section
variable {X : Cx} {x : Str} {p pos : Pos} {e : Expr}
theorem de_tupM {φ : PhiE} (hg : Gl X x) (hm : X.mg x = none) (hv : bootBuiltins x = some (.type "tuple")) (ha : PE X e (liftE X.K φ)) (hn : x ≠ "__name__" := by decide) (hdb : (x == ("__debug__" : Str)) = false := by decide) (he : starEach [e] X.env = [(false, eval e X.env)] := by rfl) :
    PE X (.Call (.Name x p) [e] [] pos) (liftE X.K (eTupM φ)) :=
  (pe_callTy call_tuple_of hg hm hv (pa_cons ha pa_nil he) hn hdb he rfl).imp fun σ H Q ⟨G, U, s, R, hst, hr, k⟩ => by
    refine ⟨G, U, s, _, hst, hr, fun r s1 G1 H1 v q1 e1 hs1 hv1 => ?_⟩
    unfold tupM at q1
    split at q1
    · split at q1
      · rename_i ds hm1
        have hv1 : v = .ref _ := hv1
        subst hv1
        obtain ⟨g0, xs, hx, dx⟩ := hs1.base.mu _ _ hm1
        refine ⟨_, xs, rfl, .inl ⟨SqL.of hx, fun l hl => ?_⟩⟩
        obtain ⟨z1, z2⟩ := hs1.newD (o := .tup xs) hl
        exact k _ s1 _ _ _ q1 (e1.trans z1) z2 ⟨l, xs, rfl, upd_same, dx.mono z1⟩
      · exact q1.elim
    · exact q1.elim
end
/-! dict comprehensions, keys numbers or texts -/
def keyk (d : D) (P : Key → Prop) : Prop := match keyOf d with
  | some x => P x
  | none => False
def kputK (ks : List Key) (x : Key) : List Key := if dhas ks x = true then ks else ks ++ [x]
def kputD (ks : List Key) (ds : List D) (x : Key) (y : D) : List D := if dhas ks x = true then drep ks ds x y else ds ++ [y]
def dcL (vs : List Nat) (s0 : S) (γ : PhiG) (τ : PhiT) (φk φ : PhiE) (R : Sl → S → Prop) : List D → List Key → List D → S → Prop
  | [], ks, acc, s => R (.k ks acc) (bck vs s0 s)
  | d :: ds, ks, acc, s => γ d s fun s1 => τ s1 fun b s2 => if b = true then φk s2 fun rk s3 => fz rk s3 fun dk s3 => keyk dk fun x => φ s3 fun r s4 => fz r s4 fun y s5 => ks.length < sizeLine ∧ dcL vs s0 γ τ φk φ R ds (kputK ks x) (kputD ks acc x y) (clr vs s5) else dcL vs s0 γ τ φk φ R ds ks acc (clr vs s2)
def eDc (π : PhiI) (vs : List Nat) (γ : PhiG) (τ : PhiT) (φk φ : PhiE) : PhiE := fun s R => π s fun ds s1 => dcL vs s1 γ τ φk φ R ds [] [] (clr vs s1)
section
variable {X : Cx} {γ : PhiG} {τ : PhiT} {φk φ : PhiE} {π : PhiI} {vs ws : List Nat}
/-- the turns -/
theorem dc_in {σ : L2.St} {Q : VK} {U G1 H1 : Hp} {s1 : S} {J : It} {ds : List D} {R : Sl → S → Prop} (hk : KeepG γ) (hw : ∀ i ∈ ws, i ∈ vs) (hs1 : DL.St X.K G1 U H1 σ s1) (gv : Gives X.K J G1 ds) (q1 : dcL vs s1 γ τ φk φ R ds [] [] (clr vs s1))
    (k : ∀ r s' G' H' v, R r s' → Same G1 G' → DL.St X.K G' U H' σ s' → RsOk X.K G' U H' σ s' v r → Q v H') (D : Addr) (hD : H1 D = none) :
    ∃ W : Nat → Nat → Hp → Prop, (∃ m, W 0 m (upd H1 D (.dK []))) ∧ ∀ i m H, W i m H →
    (J.stop i H ∧ Q (.ref D) H) ∨ (J.go i H ∧ ∃ Nx : Hp → Prop, (∀ H', Nx H' → ∃ m', m' < m ∧ W (i + 1) m' H') ∧ ∀ x H', J.yld i H x H' → liftG X.K ws γ x (wipe σ vs) H' fun σ2 H2 => wipe σ2 vs = wipe σ vs ∧ liftT X.K τ σ2 H2 fun b H3 =>
      if b = true then liftE X.K φk σ2 H3 fun y H4 => liftE X.K φ σ2 H4 fun z H5 => ∃ kvs k, y = kV k ∧ H5 D = some (.dK kvs) ∧ kvs.length < sizeLine ∧ Nx (upd H5 D (.dK (putK kvs k z))) else Nx H3) := by
  obtain ⟨n1, n2, n3, n4, n5⟩ := hs1.new (o := .dK []) hD
  have a1 := (n1.aside (fun _ z => by cases z) upd_same n2 n4 n5).into (vs := vs)
  refine ⟨fun i m H' => ∃ s' G' ks acc as, m = ds.length - i ∧ i ≤ ds.length ∧ Same G1 G' ∧ DL.St X.K G' (upd U D (.dK (ks.zip as))) H' (wipe σ vs) s' ∧ ks.length = as.length ∧ DVs X.K G' acc as ∧ dcL vs s1 γ τ φk φ R (ds.drop i) ks acc s',
    ⟨ds.length, clr vs s1, G1, [], [], [], by simp, Nat.zero_le _, Same.refl _, a1, rfl, rfl, by simpa using q1⟩, ?_⟩
  rintro i m H' ⟨s', G', ks, acc, as, rfl, hi', e', hs', hka, hacc, q⟩
  have hb := hs'.base
  by_cases hlt : i < ds.length
  · rw [List.drop_eq_getElem_cons hlt] at q
    refine .inr ⟨gv.go i H' G' _ s'.μ hlt e' hb, fun H2 => ∃ s2 G2 ks2 acc2 as2, Same G1 G2 ∧ DL.St X.K G2 (upd U D (.dK (ks2.zip as2))) H2 (wipe σ vs) s2 ∧ ks2.length = as2.length ∧ DVs X.K G2 acc2 as2 ∧ dcL vs s1 γ τ φk φ R (ds.drop (i + 1)) ks2 acc2 s2,
      fun H2 ⟨s2, G2, ks2, acc2, as2, e2, hs2, hka2, hacc2, q2⟩ => ⟨ds.length - (i + 1), by omega, s2, G2, ks2, acc2, as2, rfl, hlt, e2, hs2, hka2, hacc2, q2⟩, fun x H2 y => ?_⟩
    obtain ⟨G2, e2, dv, st⟩ := gv.yld i H' G' _ s'.μ x H2 hlt e' hb y
    have hst := st _ s' rfl hs'
    refine ⟨G2, upd U D (.dK (ks.zip as)), s', ds[i], _, hst, dv, hk _ _ _ q, fun s3 σ3 G3 H3 q3 e3 hs3 o3 => ?_⟩
    have hw3 : wipe σ3 vs = wipe σ vs := by
      refine only_wipe o3 ?_ hw
      rw [← hs3.len, q3.1, hst.len, wipe_length]
    refine ⟨hw3, ?_⟩
    refine ⟨G3, _, s3, _, hs3, q3.2, fun b s4 G4 H4 q4 e4 hs4 => ?_⟩
    have e14 : Same G1 G4 := ((e'.trans e2).trans e3).trans e4
    cases b with
    | true =>
      refine ⟨G4, _, s4, _, hs4, q4, fun rk s5 G5 H5 vk q5 e5 hs5 hv5 => ?_⟩
      obtain ⟨G6, e6, hs6, d6⟩ := frz_ok hs5 hv5
      have q5 : keyk (frz s5 rk).1 fun x => φ (frz s5 rk).2 fun r s4 => fz r s4 fun y s5 => ks.length < sizeLine ∧ dcL vs s1 γ τ φk φ R (ds.drop (i + 1)) (kputK ks x) (kputD ks acc x y) (clr vs s5) := q5
      unfold keyk at q5
      cases ek : keyOf (frz s5 rk).1 with
      | none => rw [ek] at q5; exact q5.elim
      | some x =>
      rw [ek] at q5
      refine ⟨G6, _, _, _, hs6, q5, fun r s7 G7 H7 v q7 e7 hs7 hv7 => ?_⟩
      obtain ⟨G8, e8, hs8, d8⟩ := frz_ok hs7 hv7
      have q7 : ks.length < sizeLine ∧ dcL vs s1 γ τ φk φ R (ds.drop (i + 1)) (kputK ks x) (kputD ks acc x (frz s7 r).1) (clr vs (frz s7 r).2) := q7
      have ex : Same G' G8 := ((((((e2.trans e3).trans e4).trans e5).trans e6).trans e7).trans e8)
      obtain ⟨us, y1, y2, y3⟩ := dput_ok (y := (frz s7 r).1) d8 (x := x) hka (hacc.mono ex)
      refine ⟨ks.zip as, x, ?_, hs8.base.usub D _ upd_same, by rw [List.length_zip]; have := q7.1; omega, clr vs (frz s7 r).2, G8, kputK ks x, kputD ks acc x (frz s7 r).1, us, (((e14.trans e5).trans e6).trans e7).trans e8, ?_, y2, y3, q7.2⟩
      · exact keyOf_ok (H := H5) (.inl d6) ek
      · rw [y1]
        have := (hs8.asideWr (o' := .dK ((kputK ks x).zip us)) (fun _ z => by cases z)).into (vs := vs)
        rw [hw3] at this
        exact this
    | false =>
      refine ⟨clr vs s4, G4, ks, acc, as, e14, ?_, hka, hacc.mono (((e2.trans e3).trans e4)), q4⟩
      have := hs4.into (vs := vs)
      rw [hw3] at this
      exact this
  · have : i = ds.length := by omega
    subst this
    rw [List.drop_length] at q
    refine .inl ⟨gv.stop H' G' _ s'.μ e' hb, ?_⟩
    have fin : DL.St X.K G' (upd U D (.dK (ks.zip as))) H' σ (bck vs s1 s') := St.outof hs1 e' hs'
    have hug := fin.base.ug D _ upd_same
    exact k (.k ks acc) (bck vs s1 s') G' H' (.ref D) q e' (fin.unaside n3) ⟨D, rfl, hug.1, n3, hug.2, ⟨as, fin.base.usub D _ upd_same, hka, hacc⟩, fun j => fin.aside_no⟩
theorem dc_of {σ : L2.St} {H : Hp} {Q : VK} (hk : KeepG γ) (hw : ∀ i ∈ ws, i ∈ vs) (q : liftE X.K (eDc π vs γ τ φk φ) σ H Q) : tDc (liftI X.K π) (liftG X.K ws γ) (liftT X.K τ) (liftE X.K φk) (liftE X.K φ) vs σ H Q := by
  obtain ⟨G, U, s, R, hs, hr, k⟩ := q
  exact ⟨G, U, s, _, hs, hr, fun ds s1 G1 H1 J q1 e1 hs1 gv D hD => dc_in hk hw hs1 gv q1 (fun r s' G' H' v a b c d => k r s' G' H' v a (e1.trans b) c d) D hD⟩
theorem de_dc {kx vx tg iter : Expr} {ifs : List Expr} {scope : Scope} {own : List (Str × Nat)} {pos : Pos} (hc : X.calm = true) (hN : X.N.Nodup) (hi : PI X tg iter (liftI X.K π)) (ok : BlkOk X.N X.env.scope scope own) (hk : KeepG γ) (hw : ∀ i ∈ ws, i ∈ own.map (·.2))
    (hg : ∀ (s : Shared) (H : Hp) (C : Addr) (cl : List (Str × Addr)) (fp : List Addr), PG (X.blk s H scope (compEnvC scope cl C X.env) fp) tg (liftG X.K ws γ)) (ht : ∀ (s : Shared) (H : Hp) (C : Addr) (cl : List (Str × Addr)) (fp : List Addr), PTs (X.blk s H scope (compEnvC scope cl C X.env) fp) ifs (liftT X.K τ))
    (hx : ∀ (s : Shared) (H : Hp) (C : Addr) (cl : List (Str × Addr)) (fp : List Addr), PE (X.blk s H scope (compEnvC scope cl C X.env) fp) kx (liftE X.K φk))
    (he : ∀ (s : Shared) (H : Hp) (C : Addr) (cl : List (Str × Addr)) (fp : List Addr), PE (X.blk s H scope (compEnvC scope cl C X.env) fp) vx (liftE X.K φ)) (hs : ∀ x, foldedSetIterable iter X.env x = pure x := by intro _; rfl) :
    PE X (.DictComp kx vx [⟨tg, iter, ifs, 0⟩] scope pos) (liftE X.K (eDc π (own.map (·.2)) γ τ φk φ)) :=
  (pe_dc hc hN hi ok hg ht hx he hs).imp fun _ _ _ q => dc_of hk hw q
end
end DL
/-! DL29: x.pop(k), x an own dict keyed by tuples; list(range(a, b)); dict displays with written keys. -/
namespace DL
open PySem PySem.Spec PyProof.Rows L2
theorem KT_drop {H : Hp} {kvs : List (List Key × V)} {xs : List (List Key × Addr × Value)} (r : KT H kvs xs) (k : List Key) : KT H (dropK kvs k) (withoutH xs k) := by
  induction r with
  | nil => exact .nil
  | @cons p q ps qs h t ih =>
    unfold dropK withoutH at ih ⊢
    rw [List.filter_cons, List.filter_cons, ← h.1]
    by_cases e : p.1 = k
    · rw [if_neg (by simpa using e), if_neg (by simpa using e)]
      exact ih
    · rw [if_pos (by simpa using e), if_pos (by simpa using e)]
      exact .cons h ih
section
variable {X : Cx} {pins : List (Addr × Obj)} {σ : L2.St} {H : Hp} {s : Shared} {a b : Addr} {kvs : List (List Key × V)} {k : List Key} {A : Around} {E : Value → Shared → Prop} {u : Value}
theorem d_popT {v : V} {Q : Value → Shared → Prop} (hu : A.units + 1 < cLine) (I : Inv X pins σ H s) (e : H a = some (.dT kvs)) (eb : H b = some (.tup (k.map kV))) (l : valV kvs k = some v)
    (h : ∀ w' s', Inv X pins σ (upd H a (.dT (dropK kvs k))) s' → RelV v w' → Q w' s') : wpAny (model X.prog X.w) A (call (.builtin "dict.pop") [.ref a, .ref b]) Q E s := by
  obtain ⟨z, hd, xs, rel, dd⟩ := dt_of I.hok e
  have hz : xs.length ≤ sizeLine := by rw [← Paired.length rel]; exact z
  obtain ⟨w', hw, rw'⟩ := RelO.some_of (v := v) (o := (atKey xs k).map (·.2)) (by rw [← l]; exact rel.val k)
  refine call_meetsIn PySem.F.slot_dict_pop dd.typeIs PySem.F.entry_dict_pop (PySem.F.args_dict_pop_2 _ _) (meetsH_dict_pop (tupleKind (mixKind X.prog X.w)) a b hd [] (.inl rfl))
    ⟨tupleKind_room_in1 hu, k, xs, key_of I.hok eb, dd, hz, fun p hp h' dd' hs => h p.2 _ ?_ ?_, fun hn => ?_⟩
  · have hl : (dropK kvs k).length ≤ sizeLine := Nat.le_trans (dropK_le kvs k) z
    obtain ⟨q, es, ep, hq, h2, h3, h4, h5, h6⟩ := dd'
    refine d_write I (by rw [e]; exact True.intro) hs ⟨q, hq⟩ ⟨hl, hd, _, (KT_drop rel k).keeps fun c ys ec => ?_, q, es, ep, hq, h2, h3, h4, h6⟩
    rw [upd_ne (ne_of ec e (fun z => nomatch z))]
    exact ec
  · rw [hp] at hw
    cases hw
    exact rw'
  · rw [hn] at hw; cases hw
end
def tDPopT (td ty : TE) : TE := fun σ H Q => td σ H fun x H1 => ∃ a, x = .ref a ∧ IsD H1 a ∧ ty σ H1 fun y H2 => ∃ kvs b k v, H2 a = some (.dT kvs) ∧ y = .ref b ∧ H2 b = some (.tup (k.map kV)) ∧ valV kvs k = some v ∧ Q v (upd H2 a (.dT (dropK kvs k)))
theorem pe_dpopT {X : Cx} {o e : Expr} {td ty : TE} {apos cpos : Pos} (hu : X.A.units + 1 < cLine) (ho : PE X o td) (he : PE X e ty) (m : M1 X o "pop" apos e cpos) : PE X (.Call (.Attribute o "pop" apos) [e] [] cpos) (tDPopT td ty) := by
  refine ⟨fun pins s σ H Q I h => ?_⟩
  refine wpAny_Call_method m.base m.few m.line PySem.F.plainAttrs_dict PySem.F.slot_dict_pop PySem.F.type_dict_pop (thn (ho.run pins s σ H _ I h) fun u s1 ⟨x, H1, I1, rx, a, ex, d, q1⟩ => ?_)
  subst ex
  obtain rfl : u = Value.ref a := rx
  obtain ⟨t1, t2, _⟩ := isD_at I1 d
  refine ⟨t1, t2, ?_⟩
  rw [m.trees]
  refine Calls.callWith_builtin rfl (Calls.evalArgs_plain (Calls.spliced_cons (thn (he.run pins s1 σ H1 _ I1 q1) fun iv s2 ⟨y, H2, I2, ry, kvs, b, k, v, ea, ey, eb, l, q2⟩ => Calls.spliced_nil ?_)))
  subst ey
  obtain rfl : iv = Value.ref b := ry
  exact d_popT hu I2 ea eb l fun w' s3 I3 rw' => ⟨v, _, I3, rw', q2⟩
/-- the keys but one -/
def tdelK : List (List Key) → List Key → List (List Key)
  | [], _ => []
  | k :: ks, x => if k = x then tdelK ks x else k :: tdelK ks x
def tdelD : List (List Key) → List D → List Key → List D
  | k :: ks, d :: ds, x => if k = x then tdelD ks ds x else d :: tdelD ks ds x
  | _, _, _ => []
theorem tdel_ok {K : PySem.W.Frag} {G : Hp} {x : List Key} : ∀ {ks : List (List Key)} {ds : List D} {vs : List V}, ks.length = vs.length → DVs K G ds vs → ∃ us, dropK (ks.zip vs) x = (tdelK ks x).zip us ∧ (tdelK ks x).length = us.length ∧ DVs K G (tdelD ks ds x) us
  | [], ds, vs, hl, h => by
    refine ⟨[], rfl, rfl, ?_⟩
    cases ds <;> exact rfl
  | k :: ks, [], vs, hl, h => by
    have h : vs = [] := h
    subst h
    simp at hl
  | k :: ks, d :: ds, vs, hl, ⟨v, r, h1, h2, h3⟩ => by
    subst h1
    obtain ⟨us, e1, e2, e3⟩ := tdel_ok (x := x) (ks := ks) (by simpa using hl) h3
    by_cases e : k = x
    · refine ⟨us, ?_, ?_, ?_⟩
      · show dropK ((k, v) :: ks.zip r) x = (if k = x then tdelK ks x else k :: tdelK ks x).zip us
        rw [if_pos e, ← e1]
        unfold dropK
        rw [List.filter_cons, if_neg (by simpa using e)]
      · show (if k = x then tdelK ks x else k :: tdelK ks x).length = us.length
        rw [if_pos e, e2]
      · show DVs K G (if k = x then tdelD ks ds x else d :: tdelD ks ds x) us
        rw [if_pos e]; exact e3
    · refine ⟨v :: us, ?_, ?_, ?_⟩
      · show dropK ((k, v) :: ks.zip r) x = (if k = x then tdelK ks x else k :: tdelK ks x).zip (v :: us)
        rw [if_neg e, List.zip_cons_cons, ← e1]
        unfold dropK
        rw [List.filter_cons, if_pos (by simpa using e)]
      · show (if k = x then tdelK ks x else k :: tdelK ks x).length = (v :: us).length
        rw [if_neg e]; simp [e2]
      · show DVs K G (if k = x then tdelD ks ds x else d :: tdelD ks ds x) (v :: us)
        rw [if_neg e]; exact ⟨v, us, rfl, h2, e3⟩
def tpopk (i : Nat) (x : List Key) (s : S) (RS : S → Prop) : Prop := match get s.ρ i with
  | .t ks ds => (tlook ks ds x).isSome = true ∧ RS (s.set i (.t (tdelK ks x) (tdelD ks ds x)))
  | _ => False
def sTPop (i : Nat) (φk : PhiE) : PhiS := fun Δ s => tpk0 (get s.ρ i) (φk s fun rk s1 => lk rk s1 fun dk => tyk dk fun x => tpopk i x s1 Δ.nx)
theorem ds_tpop {X : Cx} {i : Nat} {o e : Expr} {φk : PhiE} {apos cpos pos : Pos} (hu : X.A.units + 1 < cLine) (ho : PE X o (tVar i)) (he : PE X e (liftE X.K φk)) (m : M1 X o "pop" apos e cpos)
    (hsw : swapsWith (.Call (.Attribute o "pop" apos) [e] [] cpos) none pos.line X.env = pure false := by rfl) :
    PS X (.Expr (.Call (.Attribute o "pop" apos) [e] [] cpos) pos) (liftS X.K (sTPop i φk)) :=
  (ps_expr (pe_dpopT hu ho he m) hsw).imp fun E σ H ⟨G, U, s, Δ, hst, hr, k⟩ => by
    unfold sTPop at hr
    cases e0 : get s.ρ i with
    | t ks0 ds0 =>
      rw [e0] at hr
      obtain ⟨a, xs, p1, p2, p3, p4, p5⟩ := own_thereT hst e0
      refine ⟨.ref a, p1, a, rfl, .inr ⟨_, .inl p3⟩, G, U, s, _, hst, hr, fun rk s3 G3 H3 vk q3 e3 hs3 hv3 => ?_⟩
      obtain ⟨G3', e3', hs3', pn⟩ := pin_ok hs3 hv3
      rw [← pin_lk] at q3
      obtain ⟨dk, lx, q3⟩ := lk_ok hs3' pn q3
      cases dk with
      | tup es =>
        unfold tyk at q3
        simp only at q3
        obtain ⟨bk, ws, rfl, g1, g2⟩ := lx.tupS hs3'.base
        cases ek : keyTs es with
        | none => rw [ek] at q3; exact q3.elim
        | some x =>
          rw [ek] at q3
          have q3 : tpopk i x s3 Δ.nx := q3
          unfold tpopk at q3
          cases e4 : get s3.ρ i with
          | t ks ds =>
            rw [e4] at q3
            obtain ⟨a', us, y1, y2, y3, y4, y5⟩ := own_thereT hs3' e4
            have : a' = a := by
              have z := p1.symm.trans y1
              injection z with z
              injection z with z
              injection z with z
              exact z.symm
            subst this
            obtain ⟨q5, q6⟩ := q3
            cases el : tlook ks ds x with
            | none => rw [el] at q5; cases q5
            | some d =>
              obtain ⟨v, w1, w2⟩ := (tlook_ok (x := x) y4 y5).1 d el
              obtain ⟨zs, z1, z2, z3⟩ := tdel_ok (x := x) (ks := ks) (ds := ds) y4 y5
              refine ⟨ks.zip us, bk, x, v, y3, rfl, by rw [g1, keyTs_ok g2 ek], w1, ?_⟩
              refine k.nx _ G3' _ σ q6 (e3.trans e3') ?_
              exact hs3'.wr (x := .t (tdelK ks x) (tdelD ks ds x)) y2 ⟨zs, by rw [z1]; exact upd_same, z2, z3⟩
          | _ => rw [e4] at q3; exact q3.elim
      | _ => exact q3.elim
    | _ => rw [e0] at hr; exact hr.elim
/-! list(range(a, b)) -/
def lrk (d1 d2 : D) (P : Int → Int → Prop) : Prop := match d1, d2 with
  | .int a, .int b => RgOk a b ∧ P a b
  | _, _ => False
def eLR (φ1 φ2 : PhiE) : PhiE := fun s R => φ1 s fun r1 s1 => fz r1 s1 fun d1 s1 => φ2 s1 fun r2 s2 => fz r2 s2 fun d2 s2 => lrk d1 d2 fun a b => R (.l (rng a (b - a).toNat)) s2
theorem de_listR {X : Cx} {e1 e2 : Expr} {φ1 φ2 : PhiE} {p pos p' pos' : Pos} (hc : X.calm = true) (hg : Gl X "list") (hm : X.mg "list" = none) (hg2 : Gl X "range") (hm2 : X.mg "range" = none) (h1 : PE X e1 (liftE X.K φ1)) (h2 : PE X e2 (liftE X.K φ2))
    (na : starEach [e1, e2] X.env = (false, eval e1 X.env) :: starEach [e2] X.env := by rfl) (nb : starEach [e2] X.env = (false, eval e2 X.env) :: starEach [] X.env := by rfl) (hp : (backTo pos' (starEach [e2] X.env)).any (·.1) = false := by rfl)
    (nc : starEach [.Call (.Name "range" p') [e1, e2] [] pos'] X.env = (false, eval (.Call (.Name "range" p') [e1, e2] [] pos') X.env) :: starEach [] X.env := by rfl) :
    PE X (.Call (.Name "list" p) [.Call (.Name "range" p') [e1, e2] [] pos'] [] pos) (liftE X.K (eLR φ1 φ2)) :=
  (pe_listRg hc hg hm (prg_2 hg2 hm2 h1 h2 na nb hp) nc).imp fun σ H Q ⟨G, U, s, R, hst, hr, k⟩ => by
    refine ⟨G, U, s, _, hst, hr, fun r1 s1 G1 H1 v1 q1 e1 hs1 hv1 => ?_⟩
    obtain ⟨G2, e2', hs2, d2⟩ := frz_ok hs1 hv1
    refine ⟨G2, U, _, _, hs2, q1, fun r2 s3 G3 H3 v3 q3 e3 hs3 hv3 => ?_⟩
    obtain ⟨G4, e4, hs4, d4⟩ := frz_ok hs3 hv3
    have q3 : lrk (frz s1 r1).1 (frz s3 r2).1 fun a b => R (.l (rng a (b - a).toNat)) (frz s3 r2).2 := q3
    unfold lrk at q3
    split at q3
    · rename_i a b ea eb
      rw [ea] at d2
      rw [eb] at d4
      have d2 : v1 = .int a := d2
      have d4 : v3 = .int b := d4
      subst d2 d4
      refine ⟨a, b, rfl, rfl, q3.1, fun q hq => ?_⟩
      obtain ⟨n1, n2, n3, n4, n5⟩ := hs4.new (o := .lst (rgV a b)) hq
      refine k _ _ G4 _ _ q3.2 (((e1.trans e2').trans e3).trans e4) n1 ⟨q, rfl, n2, n3, n4, ⟨_, upd_same, ?_⟩, n5⟩
      have : rgV a b = ((List.range (b - a).toNat).map fun i : Nat => (a + (i : Int))).map V.int := by unfold rgV; rw [List.map_map]; rfl
      rw [this]
      have e : rng a (b - a).toNat = ((List.range (b - a).toNat).map fun i : Nat => (a + (i : Int))).map D.int := by unfold rng; rw [List.map_map]; rfl
      rw [e]
      exact DVs.ofInts
    · exact q3.elim
/-! {k1: e1, ..}, the keys written, no two alike -/
def dspL : List (Key × PhiE) → S → (List D → S → Prop) → Prop
  | [], s, P => P [] s
  | q :: l, s, P => q.2 s fun r s1 => fz r s1 fun d s2 => dspL l s2 fun ds s3 => P (d :: ds) s3
def eDisp (l : List (Key × PhiE)) : PhiE := fun s R => dspL l s fun ds s2 => R (.k (l.map (·.1)) ds) s2
def dspT (K : PySem.W.Frag) (l : List (Key × PhiE)) : List (TE × TE) := l.map fun q => (tC (kV q.1), liftE K q.2)
theorem putK_new : ∀ {kvs : List (Key × V)} {k : Key} {v : V}, k ∉ kvs.map (·.1) → putK kvs k v = kvs ++ [(k, v)] := fun {kvs k v} h => by
  unfold putK
  have : (kvs.any fun kv => decide (kv.1 = k)) = false := by
    rw [List.any_eq_false]
    intro q hq
    simp only [decide_eq_true_eq]
    exact fun e => h (List.mem_map.mpr ⟨q, hq, e⟩)
  rw [this]
  rfl
theorem mergeK_new : ∀ (more kvs : List (Key × V)), ((kvs ++ more).map (·.1)).Nodup → mergeK kvs more = kvs ++ more
  | [], kvs, _ => by rw [List.append_nil]; rfl
  | q :: more, kvs, h => by
    show mergeK (putK kvs q.1 q.2) more = _
    have hn : q.1 ∉ kvs.map (·.1) := by
      rw [List.map_append, List.nodup_append] at h
      exact fun z => h.2.2 q.1 z q.1 (by simp) rfl
    rw [putK_new hn, mergeK_new more (kvs ++ [(q.1, q.2)]) (by rw [List.append_assoc]; exact h), List.append_assoc]
    rfl
theorem dsp_run {K : PySem.W.Frag} {U : Hp} {σ : L2.St} : ∀ (l : List (Key × PhiE)) (G H : Hp) (s : S) (P : List D → S → Prop) (Q : List (V × V) → Hp → Prop), DL.St K G U H σ s → dspL l s P →
    (∀ ds s2 G2 H2 vs, P ds s2 → Same G G2 → DL.St K G2 U H2 σ s2 → DVs K G2 ds vs → vs.length = l.length → Q (((l.map (·.1)).zip vs).map fun kv => (kV kv.1, kv.2)) H2) → tPairs (dspT K l) σ H Q
  | [], G, H, s, P, Q, hst, hr, k => k [] s G H [] hr (Same.refl _) hst rfl rfl
  | q :: l, G, H, s, P, Q, hst, hr, k => by
    refine ⟨G, U, s, _, hst, hr, fun r s1 G1 H1 v q1 e1 hs1 hv1 => ?_⟩
    obtain ⟨G2, e2, hs2, d2⟩ := frz_ok hs1 hv1
    refine dsp_run l G2 H1 _ _ _ hs2 q1 fun ds s3 G3 H3 vs q3 e3 hs3 dv hl => ?_
    exact k _ s3 G3 H3 (v :: vs) q3 ((e1.trans e2).trans e3) hs3 ⟨v, vs, rfl, d2.mono e3, dv⟩ (by simp [hl])
theorem de_disp {X : Cx} {pos : Pos} {keys : List (Option Expr)} {values : List Expr} {l : List (Key × PhiE)} (h : PPs X pos keys values (dspT X.K l)) (hn : (l.map (·.1)).Nodup) (hlen : l.length ≤ 15) (hall : keys.all (·.isSome) = true) (hl : keys.length = values.length) (h0 : keys ≠ []) (h15 : keys.length ≤ 15) :
    PE X (.Dict keys values pos) (liftE X.K (eDisp l)) :=
  (pe_disp h hall hl h0 h15).imp fun σ H Q ⟨G, U, s, R, hst, hr, k⟩ => fun p hp => by
    obtain ⟨n1, n2, n3, n4, n5⟩ := hst.new (o := .dK []) hp
    have a1 := n1.aside (fun _ z => by cases z) upd_same n2 n4 n5
    refine dsp_run l G _ s _ _ a1 hr fun ds s2 G2 H2 vs q2 e2 hs2 dv hv => ?_
    refine ⟨hs2.base.usub p _ upd_same, (l.map (·.1)).zip vs, rfl, by rw [List.length_zip, List.length_map]; omega, ?_⟩
    have hm : mergeK [] ((l.map (·.1)).zip vs) = (l.map (·.1)).zip vs := by
      have := mergeK_new ((l.map (·.1)).zip vs) [] (by
        rw [List.nil_append, List.map_fst_zip (by rw [List.length_map, hv]; exact Nat.le_refl _)]
        exact hn)
      exact this
    rw [hm]
    have fin := hs2.asideWr (o' := .dK ((l.map (·.1)).zip vs)) (fun _ z => by cases z)
    have hug := fin.base.ug p _ upd_same
    exact k _ s2 G2 _ _ q2 e2 (fin.unaside n3) ⟨p, rfl, hug.1, n3, hug.2, ⟨vs, upd_same, by rw [List.length_map, hv], dv⟩, fun j => fin.aside_no⟩
theorem dsp_nil {X : Cx} {pos : Pos} : PPs X pos [] [] (dspT X.K []) := pps_nil
theorem dsp_s {X : Cx} {pos : Pos} {x : Str} {j : Nat} {p : Pos} {v : Expr} {φ : PhiE} {ks : List (Option Expr)} {vs : List Expr} {l : List (Key × PhiE)} (hv : PE X v (liftE X.K φ)) (hr : PPs X pos ks vs (dspT X.K l)) :
    PPs X pos (some (.Constant (.str x) j p) :: ks) (v :: vs) (dspT X.K ((.inr x, φ) :: l)) := pps_cons pe_str hv hr
end DL
/-! DL30: {k: v for k in x}, x the slot's own dict (held still while it is walked); x.get(k, y) of a dict that stays. -/
namespace DL
open PySem PySem.Spec PyProof.Rows L2
section
variable {K : PySem.W.Frag} {G U H : Hp} {p : Addr} {od : Obj} {u : HO} {σ : L2.St} {s : S}
/-! what was held still at p is let go -/
theorem unf_rd (hp : G p = some (.frz od u)) {a : Addr} {w : HO} (hw : ∀ o v, w ≠ .frz o v) (h : Rd G a w) : Rd (upd G p u) a w := by
  by_cases e : a = p
  · subst e
    rcases h with h | ⟨o, h⟩
    · rw [hp] at h
      cases h
      exact absurd rfl (hw _ _)
    · rw [hp] at h
      cases h
      exact .inl upd_same
  · rcases h with h | ⟨o, h⟩
    · exact .inl (by rw [upd_ne e]; exact h)
    · exact .inr ⟨o, by rw [upd_ne e]; exact h⟩
theorem unf_at (hp : G p = some (.frz od u)) {a : Addr} {w : HO} (hw : ∀ o v, w ≠ .frz o v) (h : G a = some w) : upd G p u a = some w := by
  have e : a ≠ p := fun e => by rw [e, hp] at h; cases h; exact absurd rfl (hw _ _)
  rw [upd_ne e]; exact h
theorem unf_l (hp : G p = some (.frz od u)) {a : Addr} {xs : List V} (h : SqL K G a xs) : SqL K (upd G p u) a xs := by
  rcases h with h | h
  · exact .inl (unf_rd hp (fun _ _ z => by cases z) h)
  · exact .inr h
theorem unf_t (hp : G p = some (.frz od u)) {a : Addr} {xs : List V} (h : SqT K G a xs) : SqT K (upd G p u) a xs := by
  rcases h with h | h
  · exact .inl (unf_rd hp (fun _ _ z => by cases z) h)
  · exact .inr h
mutual
theorem DV.unf (hp : G p = some (.frz od u)) : ∀ {d : D} {v : V}, DV K G d v → DV K (upd G p u) d v
  | .non, _, h => h
  | .bl _, _, h => h
  | .int _, _, h => h
  | .str _, _, h => h
  | .ty _, _, h => h
  | .ref _, _, h => h
  | .tup _, _, ⟨a, xs, h1, h2, h3⟩ => ⟨a, xs, h1, unf_at hp (fun _ _ z => by cases z) h2, DVs.unf hp h3⟩
  | .tpl _, _, ⟨a, xs, h1, h2, h3⟩ => ⟨a, xs, h1, unf_t hp h2, DVs.unf hp h3⟩
  | .lst _, _, ⟨a, xs, h1, h2, h3⟩ => ⟨a, xs, h1, unf_l hp h2, DVs.unf hp h3⟩
  | .dic _ _, _, ⟨a, xs, h1, h2, h3, h4⟩ => ⟨a, xs, h1, unf_rd hp (fun _ _ z => by cases z) h2, h3, DVs.unf hp h4⟩
  | .dit _ _, _, ⟨a, xs, h1, h2, h3, h4⟩ => ⟨a, xs, h1, unf_rd hp (fun _ _ z => by cases z) h2, h3, DVs.unf hp h4⟩
  | .dlr, _, ⟨a, c, ns, h1, h2, h3, h4⟩ => ⟨a, c, ns, h1, unf_at hp (fun _ _ z => by cases z) h2, unf_l hp h3, h4⟩
  | .mch _, _, ⟨a, c, ns, h1, h2, h3, h4⟩ => ⟨a, c, ns, h1, unf_at hp (fun _ _ z => by cases z) h2, unf_l hp h3, h4⟩
theorem DVs.unf (hp : G p = some (.frz od u)) : ∀ {ds : List D} {vs : List V}, DVs K G ds vs → DVs K (upd G p u) ds vs
  | [], _, h => h
  | _ :: _, _, ⟨x, r, h1, h2, h3⟩ => ⟨x, r, h1, DV.unf hp h2, DVs.unf hp h3⟩
end
theorem Hd.unf (hp : G p = some (.frz od u)) {a : Addr} {x : Sl} (ha : a ≠ p) (h : Hd K G H a x) : Hd K (upd G p u) (upd H p u) a x := by
  cases x with
  | l ds => obtain ⟨xs, h1, h2⟩ := h; exact ⟨xs, by rw [upd_ne ha]; exact h1, h2.unf hp⟩
  | k ks ds => obtain ⟨xs, h1, h2, h3⟩ := h; exact ⟨xs, by rw [upd_ne ha]; exact h1, h2, h3.unf hp⟩
  | t ks ds => obtain ⟨xs, h1, h2, h3⟩ := h; exact ⟨xs, by rw [upd_ne ha]; exact h1, h2, h3.unf hp⟩
  | no => exact h.elim
  | d d => exact h.elim
  | b i => exact h.elim
theorem St.unf (hp : G p = some (.frz od u)) (h : DL.St K G U H σ s) : DL.St K (upd G p u) U (upd H p u) σ s := by
  have hg : ∀ b, G b = none → b ≠ p := fun b e z => by rw [z, hp] at e; cases e
  have hg2 : ∀ b, G b = none → upd G p u b = none := fun b e => by rw [upd_ne (hg b e)]; exact e
  have hU : U p = none := by
    cases q : U p with
    | none => rfl
    | some o => have := (h.base.ug p o q).1; rw [hp] at this; cases this
  refine ⟨⟨fun b o e => ?_, fun b o e => ?_, fun b o e => ?_, fun b o e => ?_, h.base.bx⟩, h.len, fun j => ?_, h.dis⟩
  · by_cases hb : b = p
    · subst hb
      rw [upd_same] at e ⊢
      exact e
    · rw [upd_ne hb] at e ⊢
      exact h.base.sub b o e
  · rw [upd_ne (ne_of_none e hU)]; exact h.base.usub b o e
  · obtain ⟨q1, q2⟩ := h.base.ug b o e
    exact ⟨hg2 b q1, q2⟩
  · obtain ⟨q1, q2⟩ := h.base.mu b o e
    refine ⟨hg2 b q1, ?_⟩
    have hb := hg b q1
    cases o with
    | ins C dx fs ds => obtain ⟨xs, h1, h2, h3⟩ := q2; exact ⟨xs, by rw [upd_ne hb]; exact h1, h2, h3.unf hp⟩
    | sl x => exact Hd.unf hp hb q2
  · have hs := h.slot j
    cases hx : (get s.ρ j).own with
    | true =>
      obtain ⟨c, e1, oa, q1, q2, q3, q4⟩ := h.ownAt hx
      exact .ofOwn ⟨c, join_of e1, hg2 c q1, q2, q3, Hd.unf hp (hg c q1) q4⟩
    | false =>
      cases e' : get s.ρ j with
      | no => exact trivial
      | d d =>
        rw [e'] at hs
        obtain ⟨v, q1, q2⟩ := hs
        exact ⟨v, q1, q2.unf hp⟩
      | b m => rw [e'] at hs; exact hs.elim
      | l ds => rw [e'] at hx; cases hx
      | k ks ds => rw [e'] at hx; cases hx
      | t ks ds => rw [e'] at hx; cases hx
theorem RsOk.unf (hp : G p = some (.frz od u)) {v : V} {r : Sl} (h : RsOk K G U H σ s v r) : RsOk K (upd G p u) U (upd H p u) σ s v r := by
  have hg : ∀ b, G b = none → b ≠ p := fun b e z => by rw [z, hp] at e; cases e
  have hg2 : ∀ b, G b = none → upd G p u b = none := fun b e => by rw [upd_ne (hg b e)]; exact e
  cases r with
  | no => exact h
  | d d => exact DV.unf hp h
  | b i => exact h
  | l ds => obtain ⟨q, e, h1, h2, h3, h4, h5⟩ := h; exact ⟨q, e, hg2 q h1, h2, h3, Hd.unf hp (hg q h1) h4, h5⟩
  | k ks ds => obtain ⟨q, e, h1, h2, h3, h4, h5⟩ := h; exact ⟨q, e, hg2 q h1, h2, h3, Hd.unf hp (hg q h1) h4, h5⟩
  | t ks ds => obtain ⟨q, e, h1, h2, h3, h4, h5⟩ := h; exact ⟨q, e, hg2 q h1, h2, h3, Hd.unf hp (hg q h1) h4, h5⟩
/-- an own slot's dict, held still -/
theorem St.hold {i : Nat} {a : Addr} {ks : List Key} {ds : List D} {xs : List V} (h : DL.St K G U H σ s) (ha : OwnAt σ s.ρ i a) (hx : H a = some (.dK (ks.zip xs))) (hl : ks.length = xs.length) (hd : DVs K G ds xs) (od : Obj) :
    Same G (upd G a (.frz od (.dK (ks.zip xs)))) ∧ DL.St K (upd G a (.frz od (.dK (ks.zip xs)))) U (upd H a (.frz od (.dK (ks.zip xs)))) σ (s.set i (.d (.dic ks ds))) := by
  obtain ⟨g0, u0, m0, _⟩ := h.own_facts ha
  have sm := same_new (o := .frz od (.dK (ks.zip xs))) g0
  refine ⟨sm, ?_⟩
  have hi : i < s.ρ.length := by
    by_cases q : i < s.ρ.length
    · exact q
    · have := ha.1
      rw [get_ge s.ρ i (by omega)] at this
      cases this
  have ng : ∀ b, G b = none → b ≠ a → upd G a (.frz od (.dK (ks.zip xs))) b = none := fun b e z => by rw [upd_ne z]; exact e
  refine ⟨⟨fun b o e => ?_, fun b o e => ?_, fun b o e => ?_, fun b o e => ?_, h.base.bx⟩, by show (put s.ρ i _).length = _; rw [put_len]; exact h.len, fun j => ?_, fun j k b hjk q1 q2 => ?_⟩
  · by_cases hb : b = a
    · subst hb; rw [upd_same] at e ⊢; exact e
    · rw [upd_ne hb] at e ⊢; exact h.base.sub b o e
  · rw [upd_ne (ne_of_none e u0)]; exact h.base.usub b o e
  · obtain ⟨q1, q2⟩ := h.base.ug b o e
    exact ⟨ng b q1 (ne_of_none e u0), q2⟩
  · have hb : b ≠ a := fun z => by subst z; have e : s.μ b = some o := e; rw [m0] at e; cases e
    obtain ⟨q1, q2⟩ := h.base.mu b o e
    exact ⟨ng b q1 hb, q2.mono sm (by rw [upd_ne hb])⟩
  · show SlOk K _ U _ s.μ _ (get (put s.ρ i _) j)
    rw [get_put]
    by_cases hj : j = i
    · subst hj
      rw [if_pos ⟨rfl, hi⟩]
      exact ⟨.ref a, join_of ha.2, a, xs, rfl, .inr ⟨od, upd_same⟩, hl, hd.mono sm⟩
    · rw [if_neg fun z => hj z.1]
      have hs := h.slot j
      cases hx : (get s.ρ j).own with
      | true =>
        obtain ⟨c, e1, oa, q1, q2, q3, q4⟩ := h.ownAt hx
        have hc : c ≠ a := fun z => by subst z; exact h.dis j i c hj oa ha
        exact .ofOwn ⟨c, join_of e1, ng c q1 hc, q2, q3, q4.mono sm (by rw [upd_ne hc])⟩
      | false =>
        cases e' : get s.ρ j with
        | no => exact trivial
        | d d =>
          rw [e'] at hs
          obtain ⟨v, q1, q2⟩ := hs
          exact ⟨v, q1, q2.mono sm⟩
        | b m => rw [e'] at hs; exact hs.elim
        | l ds => rw [e'] at hx; cases hx
        | k ks ds => rw [e'] at hx; cases hx
        | t ks ds => rw [e'] at hx; cases hx
  · have back : ∀ {j : Nat}, OwnAt σ (put s.ρ i (.d (.dic ks ds))) j b → OwnAt σ s.ρ j b := fun {j} ⟨z1, z2⟩ => by
      rw [get_put] at z1
      by_cases hj : j = i ∧ i < s.ρ.length
      · rw [if_pos hj] at z1; cases z1
      · rw [if_neg hj] at z1; exact ⟨z1, z2⟩
    exact h.dis j k b hjk (back q1) (back q2)
end
theorem gives_keys {K : PySem.W.Frag} {G : Hp} {a : Addr} {od : Obj} {ks : List Key} {xs : List V} (h : G a = some (.frz od (.dK (ks.zip xs)))) (hl : ks.length = xs.length) : Gives K (Itk a od (ks.zip xs)) G (ks.map kD) := by
  have hz : (ks.zip xs).length = ks.length := by rw [List.length_zip]; omega
  refine ⟨fun i H G' U μ hi e bb => ?_, fun i H G' U μ x H' hi e bb y => ?_, fun H G' U μ e bb => ?_⟩
  · exact ⟨bb.sub _ _ (e _ _ h), by rw [hz]; simpa using hi⟩
  · obtain ⟨rfl, k, v, h1, h2⟩ := y
    subst h2
    have hi' : i < ks.length := by simpa using hi
    refine ⟨G', Same.refl _, ?_, fun σ s _ hs => hs⟩
    rw [List.getElem_map]
    have : ks[i] = k := by
      rw [List.getElem?_eq_getElem (by omega)] at h1
      have h1 := Option.some.inj h1
      rw [List.getElem_zip] at h1
      exact congrArg Prod.fst h1
    rw [this]
    cases k with
    | inl i => rfl
    | inr x => rfl
  · exact ⟨bb.sub _ _ (e _ _ h), by rw [hz]; simp⟩
def eDcK (i : Nat) (vs : List Nat) (γ : PhiG) (τ : PhiT) (φk φ : PhiE) : PhiE := fun s R => match get s.ρ i with
  | .k ks ds => dcL vs (s.set i (.d (.dic ks ds))) γ τ φk φ R (ks.map kD) [] [] (clr vs (s.set i (.d (.dic ks ds))))
  | _ => False
section
variable {X : Cx} {γ : PhiG} {τ : PhiT} {φk φ : PhiE} {ws : List Nat} {i : Nat}
theorem de_dcK {kx vx tg iter : Expr} {ifs : List Expr} {scope : Scope} {own : List (Str × Nat)} {pos : Pos} (hc : X.calm = true) (hN : X.N.Nodup) (hi : PE X iter (tVar i)) (ok : BlkOk X.N X.env.scope scope own) (hk : KeepG γ) (hw : ∀ i ∈ ws, i ∈ own.map (·.2))
    (hg : ∀ (s : Shared) (H : Hp) (C : Addr) (cl : List (Str × Addr)) (fp : List Addr), PG (X.blk s H scope (compEnvC scope cl C X.env) fp) tg (liftG X.K ws γ)) (ht : ∀ (s : Shared) (H : Hp) (C : Addr) (cl : List (Str × Addr)) (fp : List Addr), PTs (X.blk s H scope (compEnvC scope cl C X.env) fp) ifs (liftT X.K τ))
    (hx : ∀ (s : Shared) (H : Hp) (C : Addr) (cl : List (Str × Addr)) (fp : List Addr), PE (X.blk s H scope (compEnvC scope cl C X.env) fp) kx (liftE X.K φk))
    (he : ∀ (s : Shared) (H : Hp) (C : Addr) (cl : List (Str × Addr)) (fp : List Addr), PE (X.blk s H scope (compEnvC scope cl C X.env) fp) vx (liftE X.K φ)) (hs : ∀ x, foldedSetIterable iter X.env x = pure x := by intro _; rfl) :
    PE X (.DictComp kx vx [⟨tg, iter, ifs, 0⟩] scope pos) (liftE X.K (eDcK i (own.map (·.2)) γ τ φk φ)) :=
  (pe_lock (pe_dc hc hN (pi_keys hi) ok hg ht hx he hs)).imp fun σ H Q ⟨G, U, s, R, hst, hr, k⟩ => by
    unfold eDcK at hr
    cases e0 : get s.ρ i with
    | k ks ds =>
      rw [e0] at hr
      obtain ⟨a, xs, q1, q2, q3, q4, q5⟩ := own_thereK hst e0
      obtain ⟨g0, u0, m0, _⟩ := hst.own_facts q2
      refine ⟨a, .dK (ks.zip xs), q3, trivial, fun od => ?_⟩
      obtain ⟨sm, st1⟩ := hst.hold q2 q3 q4 q5 od
      refine ⟨.ref a, q1, a, od, rfl, .inl ⟨ks.zip xs, upd_same, fun D hD => ?_⟩⟩
      refine dc_in (Q := fun v H' => H' a = some (.frz od (.dK (ks.zip xs))) ∧ Q v (upd H' a (.dK (ks.zip xs)))) hk hw st1 (gives_keys upd_same q4) hr (fun r s' G' H' v r1 e1 hs' hv' => ?_) D hD
      have ga : G' a = some (.frz od (.dK (ks.zip xs))) := e1 _ _ upd_same
      refine ⟨hs'.base.sub _ _ ga, k r s' _ _ v r1 (fun b o hb => ?_) (hs'.unf ga) (hv'.unf ga)⟩
      have hba := ne_of_none hb g0
      rw [upd_ne hba]
      exact e1 _ _ (by rw [upd_ne hba]; exact hb)
    | _ => rw [e0] at hr; exact hr.elim
/-! x.get(k, y), x a dict that stays -/
def getk (d : D) (x : Key) (z : D) (P : D → Prop) : Prop := match d with
  | .dic ks ds => P ((dlook ks ds x).getD z)
  | _ => False
def isDic : D → Prop → Prop
  | .dic _ _, P => P
  | _, _ => False
def eGet (φ1 φ2 φ3 : PhiE) : PhiE := fun s R => φ1 s fun r1 s1 => fz r1 s1 fun d s1 => isDic d (φ2 s1 fun r2 s2 => fz r2 s2 fun dk s2 => keyk dk fun x => φ3 s2 fun r3 s3 => fz r3 s3 fun z s3 => getk d x z fun y => R (.d y) s3)
theorem de_get {o e f : Expr} {φ1 φ2 φ3 : PhiE} {apos cpos : Pos} (hu : X.A.units + 1 < cLine) (h1 : PE X o (liftE X.K φ1)) (h2 : PE X e (liftE X.K φ2)) (h3 : PE X f (liftE X.K φ3)) (m : M2 X o "get" apos e f cpos) :
    PE X (.Call (.Attribute o "get" apos) [e, f] [] cpos) (liftE X.K (eGet φ1 φ2 φ3)) :=
  (pe_dget2 hu h1 h2 h3 m).imp fun σ H Q ⟨G, U, s, R, hst, hr, k⟩ => by
    refine ⟨G, U, s, _, hst, hr, fun r1 s1 G1 H1 v1 q1 e1 hs1 hv1 => ?_⟩
    obtain ⟨G2, e2, hs2, d2⟩ := frz_ok hs1 hv1
    have q1 : isDic (frz s1 r1).1 (φ2 (frz s1 r1).2 fun r2 s2 => fz r2 s2 fun dk s2 => keyk dk fun x => φ3 s2 fun r3 s3 => fz r3 s3 fun z s3 => getk (frz s1 r1).1 x z fun y => R (.d y) s3) := q1
    generalize (frz s1 r1).1 = d at *
    cases d with
    | dic ks ds =>
      obtain ⟨a, xs, rfl, g1, g2, g3⟩ := d2
      have rd : ∀ {G' H' : Hp}, Same G2 G' → Same G' H' → Rd H' a (.dK (ks.zip xs)) := fun {G' H'} y z => by
        rcases g1 with g | ⟨o, g⟩
        · exact .inl (z _ _ (y _ _ g))
        · exact .inr ⟨o, z _ _ (y _ _ g)⟩
      refine ⟨a, rfl, .inl ⟨_, rd (Same.refl _) hs2.base.sub⟩, G2, U, _, _, hs2, q1, fun r3 s3 G3 H3 v3 q3 e3 hs3 hv3 => ?_⟩
      obtain ⟨G4, e4, hs4, d4⟩ := frz_ok hs3 hv3
      have q3 : keyk (frz s3 r3).1 fun x => φ3 (frz s3 r3).2 fun r3 s3 => fz r3 s3 fun z s3 => getk (.dic ks ds) x z fun y => R (.d y) s3 := q3
      unfold keyk at q3
      cases ek : keyOf (frz s3 r3).1 with
      | none => rw [ek] at q3; exact q3.elim
      | some x =>
      rw [ek] at q3
      refine ⟨G4, U, _, _, hs4, q3, fun r5 s5 G5 H5 v5 q5 e5 hs5 hv5 => ?_⟩
      obtain ⟨G6, e6, hs6, d6⟩ := frz_ok hs5 hv5
      have q5 : R (.d ((dlook ks ds x).getD (frz s5 r5).1)) (frz s5 r5).2 := q5
      have e26 : Same G2 G6 := ((e3.trans e4).trans e5).trans e6
      obtain ⟨l1, l2⟩ := dlook_ok (x := x) g2 g3
      refine ⟨valV (ks.zip xs) x, .inl ⟨ks.zip xs, x, rd e26 hs6.base.sub, keyOf_ok (H := H3) (.inl d4) ek, rfl⟩, ?_⟩
      cases el : dlook ks ds x with
      | none =>
        rw [el] at q5
        rw [l2 el]
        exact k _ _ G6 _ _ q5 ((e1.trans e2).trans e26) hs6 d6
      | some y =>
        rw [el] at q5
        obtain ⟨w, w1, w2⟩ := l1 y el
        rw [w1]
        exact k _ _ G6 _ _ q5 ((e1.trans e2).trans e26) hs6 (w2.mono e26)
    | _ => exact q1.elim
end
end DL
/-! DL31: rewriting lemmas for DL28, DL29, DL30. -/
namespace DL
open PySem PySem.Spec PyProof.Rows L2
def setk0 : Sl → Prop → Prop
  | .k _ _, P => P
  | _, _ => False
def setk1 : Sl → (List Key → List D → Prop) → Prop
  | .k ks ds, P => P ks ds
  | _, _ => False
def mlk : Option Ob → (List D → Prop) → Prop
  | some (.sl (.l xs)), P => P xs
  | _, _ => False
section
variable {ρ : List Sl} {μ : Mu} {s : S} {i n : Nat} {R : Sl → S → Prop} {RS : S → Prop} {φ φk φ1 φ2 φ3 : PhiE} {Δ : DE} {ks : List Key} {ds : List D} {d : D} {x : Key} {P : Prop} {γ : PhiG} {τ : PhiT} {vs : List Nat} {s0 : S} {a : Addr}
theorem zSetd : sSetd i φk φ Δ ⟨ρ, μ⟩ = setk0 (get ρ i) (φk ⟨ρ, μ⟩ fun rk s1 => lk rk s1 fun dk => keyk dk fun x => setk1 (get s1.ρ i) fun ks ds => ks.length < sizeLine ∧ setd1 i φ Δ x ks ds s1) := by
  unfold sSetd setk0
  cases get ρ i with
  | k ks0 ds0 =>
    show φk ⟨ρ, μ⟩ _ = φk ⟨ρ, μ⟩ _
    congr 1
    funext rk s1
    congr 1
    funext dk
    unfold keyk setk1
    cases keyOf dk with
    | none => rfl
    | some x => cases get s1.ρ i <;> rfl
  | _ => rfl
theorem zset0 : setk0 (.k ks ds) P = P := propext Iff.rfl
theorem zset1 {Q : List Key → List D → Prop} : setk1 (.k ks ds) Q = Q ks ds := propext Iff.rfl
theorem zkeyi {j : Int} {Q : Key → Prop} : keyk (.int j) Q = Q (.inl j) := propext Iff.rfl
theorem zkeys {j : Str} {Q : Key → Prop} : keyk (.str j) Q = Q (.inr j) := propext Iff.rfl
theorem zTupM : eTupM φ ⟨ρ, μ⟩ R = φ ⟨ρ, μ⟩ (tupM R) := propext Iff.rfl
theorem ztupM : tupM R (.d (.ref a)) ⟨ρ, μ⟩ = mlk (μ a) fun ds => R (.d (.tup ds)) ⟨ρ, μ⟩ := by
  have e : ∀ o : Option Ob, (match o with | some (.sl (.l ds)) => R (.d (.tup ds)) ⟨ρ, μ⟩ | _ => False) = mlk o fun ds => R (.d (.tup ds)) ⟨ρ, μ⟩ := fun o => by
    cases o with
    | none => rfl
    | some o =>
      cases o with
      | ins C dx fs ds => rfl
      | sl x => cases x <;> rfl
  exact e (μ a)
theorem zmlk {Q : List D → Prop} : mlk (some (.sl (.l ds))) Q = Q ds := propext Iff.rfl
theorem zDcK : eDcK i vs γ τ φk φ ⟨ρ, μ⟩ R = setk1 (get ρ i) fun ks ds => dcL vs ⟨put ρ i (.d (.dic ks ds)), μ⟩ γ τ φk φ R (ks.map kD) [] [] (clr vs ⟨put ρ i (.d (.dic ks ds)), μ⟩) := by
  unfold eDcK setk1
  cases get ρ i <;> rfl
theorem dcL_nil {acc : List D} : dcL vs s0 γ τ φk φ R [] ks acc s = R (.k ks acc) (bck vs s0 s) := propext Iff.rfl
theorem dcL_cons {acc : List D} : dcL vs s0 γ τ φk φ R (d :: ds) ks acc s = γ d s fun s1 => τ s1 fun b s2 => if b = true then φk s2 fun rk s3 => fz rk s3 fun dk s3 => keyk dk fun x => φ s3 fun r s4 => fz r s4 fun y s5 => ks.length < sizeLine ∧ dcL vs s0 γ τ φk φ R ds (kputK ks x) (kputD ks acc x y) (clr vs s5) else dcL vs s0 γ τ φk φ R ds ks acc (clr vs s2) := propext Iff.rfl
theorem zGet : eGet φ1 φ2 φ3 ⟨ρ, μ⟩ R = φ1 ⟨ρ, μ⟩ fun r1 s1 => fz r1 s1 fun d s1 => isDic d (φ2 s1 fun r2 s2 => fz r2 s2 fun dk s2 => keyk dk fun x => φ3 s2 fun r3 s3 => fz r3 s3 fun z s3 => getk d x z fun y => R (.d y) s3) := propext Iff.rfl
theorem zisDic : isDic (.dic ks ds) P = P := propext Iff.rfl
theorem zgetk {z : D} {Q : D → Prop} : getk (.dic ks ds) x z Q = Q ((dlook ks ds x).getD z) := propext Iff.rfl
theorem zLR : eLR φ1 φ2 ⟨ρ, μ⟩ R = φ1 ⟨ρ, μ⟩ fun r1 s1 => fz r1 s1 fun d1 s1 => φ2 s1 fun r2 s2 => fz r2 s2 fun d2 s2 => lrk d1 d2 fun a b => R (.l (rng a (b - a).toNat)) s2 := propext Iff.rfl
theorem zlrk {a b : Int} {Q : Int → Int → Prop} : lrk (.int a) (.int b) Q = (RgOk a b ∧ Q a b) := propext Iff.rfl
theorem zDisp {l : List (Key × PhiE)} : eDisp l ⟨ρ, μ⟩ R = dspL l ⟨ρ, μ⟩ fun ds s2 => R (.k (l.map (·.1)) ds) s2 := propext Iff.rfl
theorem zdsp0 {Q : List D → S → Prop} : dspL [] s Q = Q [] s := propext Iff.rfl
theorem zdspC {q : Key × PhiE} {l : List (Key × PhiE)} {Q : List D → S → Prop} : dspL (q :: l) ⟨ρ, μ⟩ Q = q.2 ⟨ρ, μ⟩ fun r s1 => fz r s1 fun d s2 => dspL l s2 fun ds s3 => Q (d :: ds) s3 := propext Iff.rfl
theorem zTPop : sTPop i φk Δ ⟨ρ, μ⟩ = tpk0 (get ρ i) (φk ⟨ρ, μ⟩ fun rk s1 => lk rk s1 fun dk => tyk dk fun x => tpopk i x s1 Δ.nx) := propext Iff.rfl
end
section
variable {ρ : List Sl} {μ : Mu} {i : Nat} {RS : S → Prop}
/-- the rows but one -/
theorem tdel_rw {α : Type} (f : α → D) (k : Pl) : ∀ rows : Rw α, tdelK (rows.map fun r => kP r.1) (kP k) = (rows.filter fun r => decide (r.1 ≠ k)).map (fun r => kP r.1) ∧ tdelD (rows.map fun r => kP r.1) (rows.map fun r => f r.2) (kP k) = (rows.filter fun r => decide (r.1 ≠ k)).map fun r => f r.2
  | [] => ⟨rfl, rfl⟩
  | r :: rows => by
    obtain ⟨h1, h2⟩ := tdel_rw f k rows
    constructor
    · show (if kP r.1 = kP k then tdelK (rows.map fun r => kP r.1) (kP k) else kP r.1 :: tdelK (rows.map fun r => kP r.1) (kP k)) = _
      by_cases e : r.1 = k
      · rw [if_pos (kP_inj.mpr e), h1, List.filter_cons_of_neg (by simpa using e)]
      · rw [if_neg fun z => e (kP_inj.mp z), h1, List.filter_cons_of_pos (by simpa using e)]; rfl
    · show (if kP r.1 = kP k then tdelD (rows.map fun r => kP r.1) (rows.map fun r => f r.2) (kP k) else f r.2 :: tdelD (rows.map fun r => kP r.1) (rows.map fun r => f r.2) (kP k)) = _
      by_cases e : r.1 = k
      · rw [if_pos (kP_inj.mpr e), h2, List.filter_cons_of_neg (by simpa using e)]
      · rw [if_neg fun z => e (kP_inj.mp z), h2, List.filter_cons_of_pos (by simpa using e)]; rfl
theorem ztpop {α : Type} {f : α → D} {rows : Rw α} {a b : Int} (h : get ρ i = rT f rows) : tpopk i [.inl a, .inl b] ⟨ρ, μ⟩ RS = ((a, b) ∈ rows.map (·.1) ∧ RS ⟨put ρ i (rT f (rows.filter fun r => decide (r.1 ≠ (a, b)))), μ⟩) := by
  unfold tpopk
  show (match get ρ i with | .t ks ds => (tlook ks ds [.inl a, .inl b]).isSome = true ∧ RS ⟨put ρ i (.t (tdelK ks [.inl a, .inl b]) (tdelD ks ds [.inl a, .inl b])), μ⟩ | _ => False) = _
  rw [h]
  show ((tlook _ _ (kP (a, b))).isSome = true ∧ RS ⟨put ρ i (.t (tdelK _ (kP (a, b))) (tdelD _ _ (kP (a, b)))), μ⟩) = _
  rw [tlook_rw, (tdel_rw f (a, b) rows).1, (tdel_rw f (a, b) rows).2]
  congr 1
  refine propext ⟨fun z => ?_, fun z => ?_⟩
  · rw [Option.isSome_map] at z
    obtain ⟨q, hq⟩ := Option.isSome_iff_exists.mp z
    exact List.mem_map.mpr ⟨q, List.mem_of_find?_eq_some hq, by simpa using List.find?_some hq⟩
  · obtain ⟨v, f1, _⟩ := find_rw z
    rw [f1]; rfl
end
end DL
/-! DL32: enumerate of a tuple. -/
namespace PySem
open AutoSeq1 (wpAny_loadPart')
theorem dl_enum_new {v : Value} {o : Obj} {Hx : Heap → Prop} (B : Begins v o Hx) :
    Meets (Builtin.«enumerate.__new__» ⟨[.type "enumerate", v], []⟩) (fun _ R s => Hx s.heap ∧ R (.ok (.ret (.ref (s.heap.push o).objs.size)))
      { s with heap := (s.heap.push o).push { cls := .type "enumerate", data := .fields #[.none, .bool false, .ref s.heap.objs.size, rawInt 0, .none, .none] } }) :=
  .of_wp fun pr wd Ar Rz sz hz => by
    obtain ⟨hq, gl, dv, tq, oz⟩ := sz; obtain ⟨hin, hz⟩ := hz
    have hsubE := sub_enumerate
    have qq : ∀ {A' : Around} {E Q : Value → Shared → Prop}, Q (.ref hq.objs.size) ⟨hq.push o, gl, dv, tq, oz⟩ → wpAny (model pr wd) A' (pyIter v) Q E ⟨hq, gl, dv, tq, oz⟩ := fun z => B.iter pr wd _ _ ⟨hq, gl, dv, tq, oz⟩ _ hin z
    wp_walk using qq
    refine wpAny_stack_any fun stk => wpAny_pure ?_
    split
    · rename_i cc _ _ _ _ _
      cases (cc == Value.type "enumerate")
      · wp_walk using qq; exact ⟨_, rfl, hz⟩
      · wp_walk using qq; exact ⟨_, rfl, hz⟩
    · wp_walk using qq; exact ⟨_, rfl, hz⟩
end PySem
namespace PySem
section
variable {prog : Program} {w : World} {A : Around} {E : Value → Shared → Prop} {s : Shared}
theorem dl_enum_call {v : Value} {o : Obj} {Hx : Heap → Prop} {Q : Value → Shared → Prop} (B : Begins v o Hx) (hin : Hx s.heap)
    (k : ∀ g, IsEnum g (s.heap.objs.size + 1) s.heap.objs.size 0 .none → g.get? s.heap.objs.size = some o → (∀ c oc, s.heap.get? c = some oc → g.get? c = some oc) → Q (.ref (s.heap.objs.size + 1)) { s with heap := g }) :
    wpAny (model prog w) A (call (.type "enumerate") [v]) Q E s := by
  refine callType_new F.called_enumerate (by decide) (F.typeCall_enumerate_1 _) (F.newCall_enumerate_1 _) (fun ob => F.args_object_init_2 ob _) F.entry_enumerate_new
    (dl_enum_new B) ⟨hin, ?_⟩
  have sz1 : (s.heap.push o).objs.size = s.heap.objs.size + 1 := Heap.size_push ..
  show _ ∧ _
  rw [sz1]
  have ie : IsEnum ((s.heap.push o).push { cls := .type "enumerate", data := .fields #[.none, .bool false, .ref s.heap.objs.size, rawInt 0, .none, .none] })
      (s.heap.objs.size + 1) s.heap.objs.size 0 .none := by
    have z := Heap.get?_push_size (s.heap.push o)
      (o := { cls := .type "enumerate", data := .fields #[.none, .bool false, .ref s.heap.objs.size, rawInt 0, .none, .none] }) rfl
    rw [sz1] at z
    exact z
  exact ⟨⟨_, ie, rfl⟩, k _ ie (Heap.get?_push_of_some _ (Heap.get?_push_size _ B.free)) fun c oc z => Heap.get?_push_of_some _ (Heap.get?_push_of_some _ z)⟩
end
end PySem
namespace DL
open PySem PySem.Spec PyProof.Rows L2
/-- the tuple at a, its items in new pairs behind their places -/
def IteT (K : PySem.W.Frag) (a : Addr) : It :=
  ⟨fun i H => ∃ (xs : List V) (x : V), SqT K H a xs ∧ xs[i]? = some x,
    fun i H v G => ∃ T x, v = .ref T ∧ H T = none ∧ G = upd H T (.tup [.int (i : Nat), x]) ∧ ∀ xs, SqT K H a xs → xs[i]? = some x,
    fun i H => ∃ xs : List V, SqT K H a xs ∧ xs.length ≤ i⟩
theorem turn_enumT {P : Program} {w : World} {K : PySem.W.Frag} {elts : List Expr} {kk : Nat} {tpos : Pos} (a e it : Addr) (hae : a ≠ e) (hai : a ≠ it) (hei : e ≠ it) :
    Turn P w K (.Tuple elts kk tpos) (IteT K a) [e, it] e (fun i h => (∃ old, IsEnum h e it ((i : Nat) : Int) old) ∧ h.IsTupleIter it a i) where
  mem := by simp
  obj := fun i h st b hb => by
    obtain ⟨⟨old, he⟩, ⟨o, ho, hc, hd⟩⟩ := st
    rcases (by simpa using hb : b = e ∨ b = it) with z | z
    · subst z; exact ⟨_, he, fun v q => nomatch q⟩
    · subst z; exact ⟨o, ho, fun v q => by rw [hd] at q; cases q⟩
  keep := fun i h h' ⟨⟨old, he⟩, hi⟩ k => ⟨⟨old, k e (by simp) _ he⟩, hi.at fun o q => k it (by simp) o q⟩
  item := by
    intro X hP hw hK hc i pins s σ H E I hf ⟨⟨old, he⟩, hit⟩ hg
    subst hP hw hK
    obtain ⟨xs, x, hq, hx⟩ := hg
    obtain ⟨its, rv, p, hz⟩ := I.tuple hq
    have hlt : i < its.toArray.size := by
      have := rv.length
      have h2 : i < xs.length := by
        rw [List.getElem?_eq_some_iff] at hx
        exact hx.1
      simp; omega
    have hhd : X.A.in1.handled = none := I.ok.hd hc
    have hel : e < s.heap.objs.size := Heap.lt_size he
    have hil : it < s.heap.objs.size := by obtain ⟨_, q, _⟩ := hit; exact Heap.lt_size q
    refine wpAny_pyNext_enum_itemD (Draws.tuple hhd it a hai its.toArray) he ⟨hit, p⟩ hlt hei (by simp [hei, Ne.symm hae]) fun u g tk hu ho hst hT hsz hk => ?_
    refine ⟨_, rfl, wpAny_letOwnedTupleGo_enum (s := { s with heap := g, toks := tk + 1 }) ho fun g2 he2 sb => ?_⟩
    have hu : its[i]? = some u := by simpa using hu
    obtain ⟨u2, hu2, ru⟩ := rv.get hx
    rw [hu] at hu2
    cases hu2
    have hT2 := (sb.2 s.heap.objs.size (Nat.ne_of_gt hel)).trans hT
    have nw : ObjOk X.prog X.w (upd H s.heap.objs.size (.tup [.int (i : Nat), x])) g2 s.heap.objs.size (.tup [.int (i : Nat), x]) :=
      ⟨(show 2 ≤ sizeLine by decide), [.int i tk, u], .cons ⟨_, rfl⟩ (.cons ru .nil), ⟨_, hT2, rfl, _, rfl⟩⟩
    have I1 : Inv X pins σ (upd H s.heap.objs.size (.tup [.int (i : Nat), x])) { s with heap := g2, toks := tk + 1 } :=
      I.turnedNew (ch := [e, it]) (fun b ob hb q => (sb.2 b fun z => hb (by simp [z])).trans (hk b ob (fun z => hb (by simp [z])) (fun z => hb (by simp [z])) q)) hf (Nat.le_refl _) nw
    refine ⟨.ref s.heap.objs.size, _, I1, rfl, ⟨_, x, rfl, I.hok.fresh (Nat.le_refl _), rfl, fun ys hy => by rw [I.tuple_inj hy hq]; exact hx⟩, ⟨⟨u, ?_⟩, hst.1.at fun o q => (sb.2 it (Ne.symm hei)).trans q⟩, fun b hb => ?_⟩
    · rw [show ((i + 1 : Nat) : Int) = (i : Int) + 1 from by omega]; exact he2
    · have hb2 : b < s.heap.objs.size := by
        rcases (by simpa using hb : b = e ∨ b = it) with z | z
        · rw [z]; exact hel
        · rw [z]; exact hil
      rw [upd_ne (Nat.ne_of_lt hb2)]
      exact (hf b hb).1
  done := by
    intro X hP hw hK hc i pins s σ H E I hf ⟨⟨old, he⟩, hit⟩ hg
    subst hP hw hK
    obtain ⟨xs, hq, hx⟩ := hg
    obtain ⟨its, rv, p, hz⟩ := I.tuple hq
    obtain ⟨f0, f1, f2, f3, f4, f5⟩ := hf it (by simp)
    have hl := rv.length
    have hty : s.TypeIs (.ref e) "enumerate" := ⟨_, he, rfl⟩
    have hhd : X.A.in1.handled = none := I.ok.hd hc
    unfold pyNext
    refine wpAny_bind (wpAny_attempt ?_)
    refine wpAny_callSpecial?_slot (name := Str.ofString "__next__") hty F.slot_enumerate_next ?_
    refine wpAny_call_entry F.slot_enumerate_next hty F.entry_enumerate_next ?_ (F.args_enumerate_next_1 _)
    show wpAny _ _ (field (.ref e) 2 >>= _) _ _ _
    refine wpAny_bind (wpAny_field he rfl (x := .ref it) rfl ?_)
    refine wpAny_bind (wpAny_nextOf_tuple_end hhd hit p (by simp; omega) fun g x eb hx' => ?_)
    obtain ⟨o, ho, hcl⟩ := hx'
    refine wpAny_bind (wpAny_isInstance (T := "StopIteration") (b := true) ⟨o, ho, hcl⟩ isSubtype_stop ?_)
    exact wpAny_pure ⟨rfl, I.turned (t' := s.toks) (fun b o hb q => eb b o hb q) f0 f1 f3 f4 f5⟩
  self := fun A i s Q E st h => let ⟨⟨_, he⟩, _⟩ := st; wpAny_pyIter_enum he h
def iEnumT (K : PySem.W.Frag) (ta : TA) : TI := fun σ H R => ta σ H fun vs H1 => ∃ a xs, vs = [.ref a] ∧ SqT K H1 a xs ∧ R (IteT K a) H1
theorem pi_enumT {X : Cx} {e : Expr} {ta : TA} {p pos tpos : Pos} {elts : List Expr} {kk : Nat} (hg : Gl X "enumerate") (hm : X.mg "enumerate" = none) (ha : PA X [e] ta) (hs : starEach [e] X.env = [(false, eval e X.env)] := by rfl) :
    PI X (.Tuple elts kk tpos) (.Call (.Name "enumerate" p) [e] [] pos) (iEnumT X.K ta) := by
  refine ⟨fun pins s σ H R I h => ?_⟩
  refine Call_ (ld_blt I hg hm boot_enumerate (PyProof.Rows.callWith_type1 (thn (ha.run pos pins s σ H _ I h) fun us s1 ⟨vs, H1, I1, r1, a, xs, ex, hq, q⟩ => ?_) hs rfl))
  subst ex
  cases r1 with
  | cons r rr =>
    cases rr
    cases r
    obtain ⟨its, rv, tp, hz⟩ := I1.tuple hq
    refine dl_enum_call (begins_tuple a its.toArray) tp fun g he hit hk => wpAny_pyIter_enum he ?_
    have I2 : Inv X pins σ H1 { s1 with heap := g } := I1.kept (t' := s1.toks) hk
    have hal : a < s1.heap.objs.size := by obtain ⟨o, ho, _⟩ := tp; exact Heap.lt_size ho
    refine ⟨s1.heap.objs.size + 1, [s1.heap.objs.size + 1, s1.heap.objs.size], _, _, H1, rfl, I2, turn_enumT a (s1.heap.objs.size + 1) s1.heap.objs.size (Nat.ne_of_lt (Nat.lt_succ_of_lt hal)) (Nat.ne_of_lt hal) (Nat.succ_ne_self _), ⟨⟨.none, he⟩, ⟨_, hit, rfl, rfl⟩⟩, fun b hb => ?_, q⟩
    have hle : s1.heap.objs.size ≤ b := by
      rcases (by simpa using hb : b = s1.heap.objs.size + 1 ∨ b = s1.heap.objs.size) with z | z
      · rw [z]; exact Nat.le_succ _
      · rw [z]; exact Nat.le_refl _
    exact I1.fpOk hle (I1.hok.fresh hle)
section
variable {K : PySem.W.Frag} {G : Hp} {ds : List D} {xs : List V} {a : Addr}
theorem gives_enumT (h : SqT K G a xs) (hd : DVs K G ds xs) : Gives K (IteT K a) G (enumD 0 ds) := by
  have hl : (enumD 0 ds).length = xs.length := by rw [enumD_len, hd.len]
  refine ⟨fun i H G' U μ hi e b => ?_, fun i H G' U μ x H' hi e b y => ?_, fun H G' U μ e b => ?_⟩
  · have hi' : i < xs.length := hl ▸ hi
    exact ⟨xs, xs[i], same_t b.sub (same_t e h), List.getElem?_eq_getElem hi'⟩
  · obtain ⟨T, x', rfl, hT, rfl, y⟩ := y
    have hi' : i < ds.length := by rw [enumD_len] at hi; exact hi
    obtain ⟨v, hv, dv⟩ := hd.get (List.getElem?_eq_getElem hi')
    have := (y xs (same_t b.sub (same_t e h))).symm.trans hv
    injection this with this
    subst this
    have gT : G' T = none := b.sub.free hT
    refine ⟨upd G' T (.tup [.int (i : Nat), x']), same_new gT, ?_, fun σ s hμ hs => (hs.newD hT).2⟩
    have e2 : (enumD 0 ds)[i] = .tup [.int (i : Nat), ds[i]] := by
      have := enumD_get 0 ds i
      rw [List.getElem?_eq_getElem hi, List.getElem?_eq_getElem hi'] at this
      simpa using this
    rw [e2]
    exact ⟨T, _, rfl, upd_same, _, _, rfl, rfl, _, _, rfl, (dv.mono e).mono (same_new gT), rfl⟩
  · exact ⟨xs, same_t b.sub (same_t e h), by rw [hl]; exact Nat.le_refl _⟩
end
def enukT : D → (List D → Prop) → Prop
  | .tup ds, k => k (enumD 0 ds)
  | _, _ => False
def iEnT (φ : PhiE) : PhiI := fun s P => φ s fun r s1 => fz r s1 fun d s2 => enukT d fun ds => P ds s2
section
variable {X : Cx} {e : Expr} {φ : PhiE} {p pos tpos : Pos} {elts : List Expr} {kk : Nat}
theorem di_enumT (hg : Gl X "enumerate") (hm : X.mg "enumerate" = none) (h : PE X e (liftE X.K φ)) (hs : starEach [e] X.env = (false, eval e X.env) :: starEach [] X.env := by rfl) (hs2 : starEach [e] X.env = [(false, eval e X.env)] := by rfl) :
    PI X (.Tuple elts kk tpos) (.Call (.Name "enumerate" p) [e] [] pos) (liftI X.K (iEnT φ)) :=
  (pi_enumT hg hm (da_cons h da_nil hs) hs2).imp fun σ H R ⟨G, U, s, P, hst, hr, k⟩ => by
    refine ⟨G, U, s, fun ds s1 => match ds with
      | [d] => enukT d fun es => P es s1
      | _ => False, hst, hr, fun ds s1 G1 H1 vs q1 e1 hs1 dv => ?_⟩
    cases ds with
    | nil => exact q1.elim
    | cons d rest =>
      cases rest with
      | cons d2 rest => exact q1.elim
      | nil =>
        obtain ⟨v, r, rfl, dd, e4⟩ := dv
        have e4 : r = [] := e4
        subst e4
        cases d with
        | tup es =>
          obtain ⟨a, xs, rfl, h1, h2⟩ := dd
          exact ⟨a, xs, rfl, SqT.of (hs1.base.sub _ _ h1), k _ s1 G1 H1 _ q1 e1 hs1 (gives_enumT (SqT.of h1) h2)⟩
        | _ => exact q1.elim
end
section
variable {ρ : List Sl} {μ : Mu} {RI : List D → S → Prop} {φ : PhiE} {ds : List D} {P : List D → Prop}
theorem zEnT : iEnT φ ⟨ρ, μ⟩ RI = φ ⟨ρ, μ⟩ fun r s1 => fz r s1 fun d s2 => enukT d fun ds => RI ds s2 := propext Iff.rfl
theorem zenukT : enukT (.tup ds) P = P (enumD 0 ds) := propext Iff.rfl
end
/-! ### not x of a value, is not True, is not False -/
theorem hu1 {n c : Nat} (h : n + 64 < c) : n + 1 < c := by omega
section
variable {X : Cx} {K : PySem.W.Frag} {e : Expr} {φ : PhiE} {pos : Pos} {ta : TE}
def tNotTV (K : PySem.W.Frag) (ta : TE) : TE := fun σ H Q => ta σ H fun x H1 => ∃ c, TruV K x H1 c ∧ Q (.bl (!c)) H1
theorem pe_notTV (ha : PE X e ta) : PE X (.UnaryOp .Not e pos) (tNotTV X.K ta) := by
  refine ⟨fun pins s σ H Q I h => ?_⟩
  refine UnaryOp_ (thn (ha.run pins s σ H _ I h) fun v s1 ⟨x, H1, I1, r1, q1⟩ => ?_)
  obtain ⟨c, ht, q1⟩ := q1
  refine PyProof.Rows.not_of (wpAny_mono (L2.tru_ok (Q := fun k H' => k = c ∧ Q (.bl (!c)) H') pins s1 σ H1 x v I1 r1 ⟨c, ht, rfl, q1⟩) (fun b s' h' => ?_) fun _ _ x => x)
  obtain ⟨H2, I2, rfl, q2⟩ := h'
  exact ⟨.bl (!b), H2, I2, rfl, q2⟩
theorem de_notT (h : PE X e (liftE X.K φ)) : PE X (.UnaryOp .Not e pos) (liftE X.K (eNot (tT φ))) :=
  (pe_notTV h).imp fun σ H Q ⟨G, U, s, R, hs, hr, k⟩ => by
    refine ⟨G, U, s, _, hs, hr, fun r1 s1 G1 H1 v1 q1 e1 hs1 hv1 => ?_⟩
    obtain ⟨G1', e1', hs1', p1⟩ := pin_ok hs1 hv1
    rw [← pin_lk] at q1
    obtain ⟨x, lx, q1⟩ := lk_ok hs1' p1 q1
    obtain ⟨c, hc, q⟩ := DL.tru_ok hs1'.base lx q1
    exact ⟨c, hc, k _ s1 G1' H1 (.bl (!c)) q (e1.trans e1') hs1' rfl⟩
theorem op_isnotbA : OpR X (compareOp .IsNot) (rIsBA fun b => !b) := by
  intro pins s σ H x y v u Q I rx ry h
  obtain ⟨b, rfl, q⟩ := h
  cases (show u = Value.bool b from ry)
  by_cases e : x = .bl b
  · subst e
    cases (show v = Value.bool b from rx)
    exact PySem.wpAny_isNot_self rfl ⟨.bl false, H, I, rfl, by simpa using q⟩
  · have hne : v ≠ Value.bool b := fun z => by
      subst z
      cases x with
      | bl c =>
        have : Value.bool b = Value.bool c := rx
        cases this
        exact e rfl
      | non => cases (show Value.bool b = Value.none from rx)
      | int i => obtain ⟨t, z⟩ := rx; cases z
      | str i => obtain ⟨t, z⟩ := rx; cases z
      | byt i => obtain ⟨t, z⟩ := rx; cases z
      | flt i => obtain ⟨t, z⟩ := rx; cases z
      | ref a => cases (show Value.bool b = Value.ref a from rx)
      | ty n => cases (show Value.bool b = Value.type n from rx)
    refine PySem.wpAny_isNot_other ?_ hne ⟨.bl true, H, I, rfl, by simpa [e] using q⟩
    cases v <;> first
      | rfl
      | (exfalso
         cases x <;> first
           | (cases rx; done)
           | (obtain ⟨t, z⟩ := rx; cases z))
end
end DL
/-! DL33: == of deep data. -/
namespace DL
open PySem PySem.Spec PyProof.Rows L2
/-! == of deep data -/
mutual
theorem deq_self : ∀ d : D, d.ok = true → D.eq d d = true
  | .non, _ => rfl
  | .bl b, _ => by show (b == b) = true; simp
  | .int i, _ => by show (i == i) = true; simp
  | .str x, _ => by show (x == x) = true; simp
  | .tup ds, h => deqs_self ds h
  | .lst ds, h => deqs_self ds h
  | .ty _, h => by cases h
  | .ref _, h => by cases h
  | .dic _ _, h => by cases h
  | .dit _ _, h => by cases h
  | .dlr, h => by cases h
  | .mch _, h => by cases h
  | .tpl _, h => by cases h
theorem deqs_self : ∀ ds : List D, D.oks ds = true → D.eqs ds ds = true
  | [], _ => rfl
  | d :: ds, h => by
    have h : (d.ok && D.oks ds) = true := h
    rw [Bool.and_eq_true] at h
    show (D.eq d d && D.eqs ds ds) = true
    rw [deq_self d h.1, deqs_self ds h.2]; rfl
end
/-- rows of flat or shallow data -/
def shal (n : Nat) (d : D) : Prop := d.ok = true ∧ d.dep ≤ n
theorem shals {n : Nat} : ∀ {ds : List D}, (∀ d ∈ ds, shal n d) → D.oks ds = true ∧ D.deps ds ≤ n
  | [], _ => ⟨rfl, Nat.zero_le _⟩
  | d :: ds, h => by
    obtain ⟨h1, h2⟩ := h d (List.mem_cons_self ..)
    obtain ⟨i1, i2⟩ := shals fun x hx => h x (List.mem_cons_of_mem _ hx)
    exact ⟨by show (d.ok && D.oks ds) = true; rw [h1, i1]; rfl, by show max d.dep (D.deps ds) ≤ n; omega⟩
theorem shal_tup {n : Nat} {ds : List D} (h : ∀ d ∈ ds, shal n d) : shal (n + 1) (.tup ds) := ⟨(shals h).1, by show D.deps ds + 1 ≤ _; have := (shals h).2; omega⟩
theorem shal_lst {n : Nat} {ds : List D} (h : ∀ d ∈ ds, shal n d) : shal (n + 1) (.lst ds) := ⟨(shals h).1, by show D.deps ds + 1 ≤ _; have := (shals h).2; omega⟩
theorem xEq_tt {xs ys : List D} {n m : Nat} (h1 : ∀ d ∈ xs, shal n d) (h2 : ∀ d ∈ ys, shal m d) (hn : n ≤ 40) {R : Sl → Prop} : oEq (.tup xs) (.tup ys) R = R (.d (.bl (D.eqs xs ys))) := by
  show (((_ ∧ _) ∧ _) ∧ R (.d (.bl (D.eqs xs ys)))) = _
  have a := shal_tup h1
  have b := shal_tup h2
  rw [eq_true (p := (((D.tup xs).ok = true ∧ (D.tup ys).ok = true) ∧ min (D.tup xs).dep (D.tup ys).dep ≤ 50)) ⟨⟨a.1, b.1⟩, by have := a.2; omega⟩, true_and]
theorem xNe_tt {xs ys : List D} {n m : Nat} (h1 : ∀ d ∈ xs, shal n d) (h2 : ∀ d ∈ ys, shal m d) (hn : n ≤ 40) {R : Sl → Prop} : oNe (.tup xs) (.tup ys) R = R (.d (.bl (!D.eqs xs ys))) := by
  show (((_ ∧ _) ∧ _) ∧ R (.d (.bl (!D.eqs xs ys)))) = _
  have a := shal_tup h1
  have b := shal_tup h2
  rw [eq_true (p := (((D.tup xs).ok = true ∧ (D.tup ys).ok = true) ∧ min (D.tup xs).dep (D.tup ys).dep ≤ 50)) ⟨⟨a.1, b.1⟩, by have := a.2; omega⟩, true_and]
theorem xEq_ll {xs ys : List D} {n m : Nat} (h1 : ∀ d ∈ xs, shal n d) (h2 : ∀ d ∈ ys, shal m d) (hn : n ≤ 40) {R : Sl → Prop} : oEq (.lst xs) (.lst ys) R = R (.d (.bl (D.eqs xs ys))) := by
  show (((_ ∧ _) ∧ _) ∧ R (.d (.bl (D.eqs xs ys)))) = _
  have a := shal_lst h1
  have b := shal_lst h2
  rw [eq_true (p := (((D.lst xs).ok = true ∧ (D.lst ys).ok = true) ∧ min (D.lst xs).dep (D.lst ys).dep ≤ 50)) ⟨⟨a.1, b.1⟩, by have := a.2; omega⟩, true_and]
theorem xNe_ll {xs ys : List D} {n m : Nat} (h1 : ∀ d ∈ xs, shal n d) (h2 : ∀ d ∈ ys, shal m d) (hn : n ≤ 40) {R : Sl → Prop} : oNe (.lst xs) (.lst ys) R = R (.d (.bl (!D.eqs xs ys))) := by
  show (((_ ∧ _) ∧ _) ∧ R (.d (.bl (!D.eqs xs ys)))) = _
  have a := shal_lst h1
  have b := shal_lst h2
  rw [eq_true (p := (((D.lst xs).ok = true ∧ (D.lst ys).ok = true) ∧ min (D.lst xs).dep (D.lst ys).dep ≤ 50)) ⟨⟨a.1, b.1⟩, by have := a.2; omega⟩, true_and]
end DL
/-! DL34: the drawing machine that is a dict (the deck), read once. -/
namespace DL
open PySem PySem.Spec PyProof.Rows L2
/-- the world of a law's run, told to the functions over trees -/
class Wd where
  w : World
/-- the promise with the machine's dict in sight -/
def spDeck (K : PySem.W.Frag) : Sp := fun vs H Q _ => ∃ (a c : Addr) (ns : List Int) (m p g x : Int), vs = [.ref a, .int m] ∧ 0 < m ∧ m < 1073741824 ∧ SqL K H c (ns.map V.int) ∧ ns.length ≤ 63 ∧ H a = some (.dK (deckKvs c p g x)) ∧ (0 ≤ p ∧ 0 ≤ g ∧ 0 ≤ x ∧ x < 2147483647) ∧
  ∀ d p' g' x', 0 ≤ d → d < m → (0 ≤ p' ∧ 0 ≤ g' ∧ 0 ≤ x' ∧ x' < 2147483647) → Q (.int d) (upd H a (.dK (deckKvs c p' g' x')))
def fnDeck [Wd] : FD := fun ds μ R => ∃ m : Int, ds = [.mch Wd.w, .int m] ∧ 0 < m ∧ m < 1073741824 ∧ ∀ d : Int, 0 ≤ d → d < m → R (.d (.int d)) μ
def fnDeckMk [Wd] : FD := fun ds μ R => ∃ (ns : List Int) (salt : Int), ds = [.lst (ns.map D.int), .int salt] ∧ ns.length ≤ 63 ∧ (0 ≤ salt ∧ salt < 2147483647) ∧ R (.d (.mch Wd.w)) μ
theorem deck_ok [Wd] {m : Int} {μ : Mu} {R : Sl → Mu → Prop} (h0 : 0 < m) (h1 : m < 1073741824) (h : ∀ d : Int, 0 ≤ d → d < m → R (.d (.int d)) μ) : fnDeck [.mch Wd.w, .int m] μ R := ⟨m, rfl, h0, h1, h⟩
section
variable {P : Program} {w : World} {K : PySem.W.Frag} {mg : Str → Option Value} {base : Heap} {k : Nat} {f : Addr} {fd : FuncData}
theorem dkr_stable {a c : Addr} : ∀ h1 h2 : Heap, Dkr w a c h1 → (∀ o, h1.get? a = some o → h2.get? a = some o) → Dkr w a c h2 :=
  fun h1 h2 ⟨P, p, g, x, b, n, vs, r, o, es, ep, e, q⟩ k => ⟨P, p, g, x, b, n, vs, r, o, es, ep, k _ e, q⟩
theorem dkr_of {H : Hp} {h : Heap} {a c : Addr} {p g x : Int} (hb : 0 ≤ p ∧ 0 ≤ g ∧ 0 ≤ x ∧ x < 2147483647) (o : ObjOk P w H h a (.dK (deckKvs c p g x))) : ObjOk P w H h a (.ext (Dkr w a c)) := by
  obtain ⟨_, n, vs, r, ob, es, ep, e, q⟩ := o
  exact ⟨⟨P, p, g, x, hb, n, vs, r, ob, es, ep, e, q⟩, ⟨_, e⟩, dkr_stable⟩
theorem pairs_any {P' : Program} : ∀ {es : List DictEntry} {vs : List (Key × Value)}, PySem.Pairs (mixKind P' w) es vs → PySem.Pairs (mixKind P w) es vs
  | _, _, .nil => .nil
  | _, _, .cons h1 h2 r => .cons h1 h2 (pairs_any r)
theorem of_dkr {H : Hp} {h : Heap} {a c : Addr} (o : ObjOk P w H h a (.ext (Dkr w a c))) : ∃ p g x : Int, (0 ≤ p ∧ 0 ≤ g ∧ 0 ≤ x ∧ x < 2147483647) ∧ ∀ H', ObjOk P w H' h a (.dK (deckKvs c p g x)) := by
  obtain ⟨⟨P', p, g, x, b, n, vs, r, ob, es, ep, e, q1, q2, q3, q4, q5⟩, _, _⟩ := o
  exact ⟨p, g, x, b, fun H' => ⟨by show 4 ≤ sizeLine; decide, n, vs, r, ob, es, ep, e, q1, q2, q3, pairs_any q4, q5⟩⟩
theorem deck_view [W : Wd] {ps : List Str} (hps : ps.length = 2) (F : FnOk P W.w K mg base CX0 k f fd ps (spDeck K)) : FnOk P W.w K mg base CX0 k f fd ps (spD K 2 fnDeck) := by
  refine ⟨fun vs H Q E h => (spD_len h).trans hps.symm, fun A outer s H args us vs Q E hr he hb hv hsp => ?_⟩
  obtain ⟨G, U, ds, μ, R, hbase, hd, hl, ⟨m, rfl, m0, m1, hR⟩, kont⟩ := hsp
  obtain ⟨v1, r1, rfl, ⟨a, c, ns, rfl, hGa, hc, hn⟩, v2, r2, rfl, rfl, rfl⟩ := hd
  have ha : H a = some (.ext (Dkr W.w a c)) := hbase.sub _ _ hGa
  obtain ⟨p, g, x, hb4, hobj⟩ := of_dkr (he.hok a _ ha)
  have hc2 : SqL K (upd H a (.dK (deckKvs c p g x))) c (ns.map V.int) := by
    have hcH := hbase.sub.seq hc
    rcases hcH with (h | ⟨o, h⟩) | h
    · refine .inl (.inl ?_)
      rw [upd_ne]
      · exact h
      · intro z
        rw [z, ha] at h
        cases h
    · refine .inl (.inr ⟨o, ?_⟩)
      rw [upd_ne]
      · exact h
      · intro z
        rw [z, ha] at h
        cases h
    · exact .inr h
  have noE : (∀ y, HO.ext (Dkr W.w a c) ≠ .own y) ∧ ∀ xs, HO.ext (Dkr W.w a c) ≠ .tup xs := ⟨fun y z => (by cases z), fun xs z => (by cases z)⟩
  have he2 : Env0 P W.w K mg base A outer s (upd H a (.dK (deckKvs c p g x))) := by
    refine ⟨he.frames, he.mod, fun b o e => ⟨(he.bs b o e).1, ?_⟩, he.bsz, he.funs, fun b hb => ?_, HOk.view he.hok ha noE (hobj _), he.bare⟩
    · rw [upd_ne]
      · exact (he.bs b o e).2
      · intro z
        have := (he.bs b o e).2
        rw [z, ha] at this
        cases this
    · rw [upd_ne]
      · exact he.frf b hb
      · intro z
        have := he.frf b hb
        rw [z, ha] at this
        cases this
  refine codeAny_mono (F.run A outer s _ args us _ (fun v H' => ∃ d p' g' x', v = V.int d ∧ 0 ≤ d ∧ d < m ∧ (0 ≤ p' ∧ 0 ≤ g' ∧ 0 ≤ x' ∧ x' < 2147483647) ∧ H' = upd (upd H a (.dK (deckKvs c p g x))) a (.dK (deckKvs c p' g' x'))) E hr he2 hb hv
    ⟨a, c, ns, m, p, g, x, rfl, m0, m1, hc2, hn, upd_same, hb4, fun d p' g' x' h1 h2 h3 => ⟨d, p', g', x', rfl, h1, h2, h3, rfl⟩⟩) fun r s' hq => ?_
  cases r with
  | error e => exact hq
  | ok fl =>
    cases fl with
    | next => exact hq
    | brk => exact hq
    | cont => exact hq
    | ret u =>
      obtain ⟨v, H', os, bare, un, hok, rv, d, p', g', x', rfl, d0, d1, b4, rfl⟩ := hq
      refine ⟨.int d, H, os, bare, ⟨fun b o e n hb hx => ?_, fun b o e n hb hx => ?_, fun _ _ _ n _ => n, fun b o e hx => un.there b o e hx, fun _ _ q => q, fun _ _ _ q => q, fun b ps q => ⟨#[], by rw [q]; simp⟩⟩, ?_, rv, ?_⟩
      · exact un.keep b o e (by rw [upd_ne (fun z => by rw [z, ha] at n; cases n)]; exact n) hb hx
      · exact un.slot b o e (by rw [upd_ne (fun z => by rw [z, ha] at n; cases n)]; exact n) hb hx
      · have hok2 := HOk.view (o' := .ext (Dkr W.w a c)) hok upd_same ⟨fun y z => (by cases z), fun xs z => (by cases z)⟩ (dkr_of b4 (by
          obtain ⟨z, n, vs, r, q⟩ := hok a _ upd_same
          exact ⟨z, n, vs, r, q⟩))
        rw [upd_upd, upd_back ha] at hok2
        exact hok2
      · exact kont _ _ μ G H (hR d d0 d1) (Same.refl _) hbase rfl
theorem deckmk_view [W : Wd] {n : Nat} {ps : List Str} {F0 : FD} (F : FnOk P W.w K mg base CX0 k f fd ps (spD K 2 F0))
    (h0 : ∀ (ns : List Int) (salt : Int) (μ : Mu), ns.length ≤ 63 → 0 ≤ salt → salt < 2147483647 → F0 [.lst (ns.map D.int), .int salt] μ fun r μ' => μ' = μ ∧ ∃ (ms : List Int) (x0 : Int), ms.length ≤ 63 ∧ (0 ≤ x0 ∧ x0 < 2147483647) ∧ r = .k [.inr "cells", .inr "at", .inr "rest", .inr "seed"] [.lst (ms.map D.int), .int 0, .int 1, .int x0]) : FnOk P W.w K mg base CX0 k f fd ps (spD K 2 fnDeckMk) := by
  refine ⟨fun vs H Q E h => ?_, fun A outer s H args us vs Q E hr he hb hv hsp => ?_⟩
  · obtain ⟨G, U, ds, μ, R, hbase, hd, hl, ⟨ns, salt, rfl, hn, hs, hR⟩, kont⟩ := h
    exact F.len vs H (fun _ _ => True) E ⟨G, U, _, μ, _, hbase, hd, hl, h0 ns salt μ hn hs.1 hs.2, fun _ _ _ _ _ _ _ _ _ => trivial⟩
  obtain ⟨G, U, ds, μ, R, hbase, hd, hl, ⟨ns, salt, rfl, hn, hs, hR⟩, kont⟩ := hsp
  refine codeAny_mono (F.run A outer s H args us vs (fun v H' => ∃ G' q c, ∃ (ms : List Int) (x0 : Int), (0 ≤ x0 ∧ x0 < 2147483647) ∧ Same G G' ∧ Base K G' U H' μ ∧ v = V.ref q ∧ G' q = none ∧ U q = none ∧ μ q = none ∧ H' q = some (.dK (deckKvs c 0 1 x0)) ∧ SqL K G' c (ms.map V.int) ∧ ms.length ≤ 63) E hr he hb hv
    ⟨G, U, _, μ, _, hbase, hd, hl, h0 ns salt μ hn hs.1 hs.2, fun r v μ' G' H' hr' e b hv' => ?_⟩) fun r s' hq => ?_
  · obtain ⟨rfl, ms, x0, hm, hx0, rfl⟩ := hr'
    obtain ⟨q, rfl, g1, g2, g3, xs, hx, hxl, v1, r1, rfl, ⟨c, ys, rfl, hc, hys⟩, v2, r2, rfl, rfl, v3, r3, rfl, rfl, v4, r4, rfl, rfl, rfl⟩ := hv'
    have := DVs.ints hys
    subst this
    exact ⟨G', q, c, ms, x0, hx0, e, b, rfl, g1, g2, g3, hx, hc, hm⟩
  · cases r with
    | error e => exact hq
    | ok fl =>
      cases fl with
      | next => exact hq
      | brk => exact hq
      | cont => exact hq
      | ret u =>
        obtain ⟨v, H', os, bare, un, hok, rv, G', q, c, ms, x0, hx0, e, b, rfl, g1, g2, g3, hx, hc, hm⟩ := hq
        have nq : ∀ {F : Hp} {b : Addr} {o : HO}, F b = some o → F q = none → b ≠ q := fun {F b o} e n z => by rw [z, n] at e; cases e
        have lst : ∀ z, H' q = some z → z = .dK (deckKvs c 0 1 x0) := fun z hz => by rw [hx] at hz; exact (Option.some.inj hz).symm
        refine ⟨.ref q, upd H' q (.ext (Dkr W.w q c)), os, bare, ⟨un.keep, un.slot, fun b o e n hx' => ?_, un.there, fun b xs e => ?_, fun b o u e => ?_, fun b ps e => ?_⟩, HOk.view hok hx ⟨fun y z => (by cases z), fun xs z => (by cases z)⟩ ?_, rv, ?_⟩
        · have := un.free b o e n hx'
          rw [upd_ne]
          · exact this
          · intro z
            rw [z, hx] at this
            cases this
        · have := un.tups b xs e
          rw [upd_ne]
          · exact this
          · intro z
            rw [z] at this
            cases lst _ this
        · have := un.frzs b o u e
          rw [upd_ne]
          · exact this
          · intro z
            rw [z] at this
            cases lst _ this
        · obtain ⟨more, this⟩ := un.tbls b ps e
          refine ⟨more, ?_⟩
          rw [upd_ne]
          · exact this
          · intro z
            rw [z] at this
            cases lst _ this
        · exact dkr_of (p := 0) (g := 1) (x := x0) ⟨by decide, by decide, hx0.1, hx0.2⟩ (by
            obtain ⟨z, n, vs, r, q⟩ := hok q _ hx
            exact ⟨z, n, vs, r, q⟩)
        · have sG : Same G' (upd G' q (.ext (Dkr W.w q c))) := same_new g1
          refine kont _ _ μ (upd G' q (.ext (Dkr W.w q c))) _ hR (e.trans sG) ⟨fun b o e => ?_, fun b o e => ?_, fun b o e => ?_, fun b o e => ?_, ‹Base K G' U H' μ›.bx⟩ ⟨q, c, ms, rfl, upd_same, sG.seq hc, hm⟩
          · by_cases hb : b = q
            · subst hb
              rw [upd_same] at e ⊢
              exact e
            · rw [upd_ne hb] at e ⊢
              exact ‹Base K G' U H' μ›.sub b o e
          · rw [upd_ne (nq e g2)]
            exact ‹Base K G' U H' μ›.usub b o e
          · rw [upd_ne (nq e g2)]
            exact ‹Base K G' U H' μ›.ug b o e
          · have hb : b ≠ q := fun z => by rw [z, g3] at e; cases e
            obtain ⟨z1, z2⟩ := ‹Base K G' U H' μ›.mu b o e
            exact ⟨by rw [upd_ne hb]; exact z1, z2.mono sG (by rw [upd_ne hb])⟩
end
/-! the draw, read -/
section
variable {c : Addr} {p g x i : Int}
theorem dv_cells : valV (deckKvs c p g x) (.inr "cells") = some (.ref c) := rfl
theorem dv_at : valV (deckKvs c p g x) (.inr "at") = some (.int p) := rfl
theorem dv_rest : valV (deckKvs c p g x) (.inr "rest") = some (.int g) := rfl
theorem dv_seed : valV (deckKvs c p g x) (.inr "seed") = some (.int x) := rfl
theorem dp_at : putK (deckKvs c p g x) (.inr "at") (.int i) = deckKvs c i g x := rfl
theorem dp_rest : putK (deckKvs c p g x) (.inr "rest") (.int i) = deckKvs c p i x := rfl
theorem dp_seed : putK (deckKvs c p g x) (.inr "seed") (.int i) = deckKvs c p g i := rfl
end
abbrev tDx (K : PySem.W.Frag) (key : Str) : TE := tOp (rIxA K) (tVar 0) (tC (.str key))
abbrev gDx (key : Str) : TG := gSub (tVar 0) (tC (.str key)) rSetD
def tDeckHead (K : PySem.W.Frag) : TS :=
  tSeq (tAsg (tOp (rIx K) (tDx K "cells") (tDx K "at")) (gName 2))
    (tSeq (tAsg (tOp rAddI (tDx K "at") (tC (.int 1))) (gDx "at"))
      (tSeq (tAsg (tOp rModI (tI1 (tOp rAddI (tOp rMulI (tDx K "seed") (tC (.int 31))) (tOp rModI (tI1 (tVar 2)) (tC (.int 2147483563))))) (tC (.int 2147483647))) (gDx "seed"))
        (tIfS (tTest (tOp (rI0 fun i j => .bl (decide (j ≤ i))) (tVar 2) (tOp (rI CPow fun i j => .int (i ^ j.toNat)) (tC (.int 10)) (tC (.int 18)))))
          (tAsg (tOp rModI (tI1 (tVar 2)) (tOp rMul (tOp (rI CPow fun i j => .int (i ^ j.toNat)) (tC (.int 10)) (tC (.int 60))) (tOp (rI CPow fun i j => .int (i ^ j.toNat)) (tC (.int 10)) (tC (.int 60))))) (gDx "rest"))
          tNext)))
def tDeckTail (K : PySem.W.Frag) : TS :=
  tSeq (tIfS (tTest (tOp (rI0 fun i j => .bl (decide (j < i))) (tDx K "rest") (tC (.int 1))))
    (tSeq (tAsg (tOp rModI (tI1 (tDx K "rest")) (tVar 1)) (gName 3))
      (tSeq (tAsg (tOp rDivI (tDx K "rest") (tVar 1)) (gDx "rest")) (tRet (tVar 3))))
    tNext)
  (tSeq (tAsg (tOp rModI (tI1 (tOp rAddI (tOp rMulI (tDx K "seed") (tC (.int 48271))) (tC (.int 12345)))) (tC (.int 2147483647))) (gDx "seed"))
    (tSeq (tAsg (tOp rModI (tI1 (tOp rMulI (tDx K "seed") (tDx K "seed"))) (tC (.int 2147483399))) (gName 4))
      (tRet (tOp rModI (tI1 (tOp rDivI (tVar 4) (tC (.int 13)))) (tVar 1)))))
abbrev tDeckCond (K : PySem.W.Frag) : TT := L2.tAnd (tTest (tOp (rI0 fun i j => .bl (decide (i < j))) (tDx K "rest") (tC (.int 2)))) (tTest (tOp (rI0 fun i j => .bl (decide (i < j))) (tDx K "at") (tCB (rLenA K) (tCons (tDx K "cells") tNil))))
def tDeckT (K : PySem.W.Frag) : TS := tSeq (tIfS (tDeckCond K) (tDeckHead K) tNext) (tDeckTail K)
section
variable {K : PySem.W.Frag} {H : Hp} {σ : L2.St} {Q : VK} {a c : Addr}
theorem ddx {kvs : List (Key × V)} {key : Str} {v : V} (hσ : σ[0]? = some (some (.ref a))) (h : H a = some (.dK kvs)) (e : valV kvs (.inr key) = some v) (q : Q v H) : tDx K key σ H Q :=
  ⟨.ref a, hσ, .inr ⟨a, v, rfl, .inl ⟨kvs, .inr key, .inl h, rfl, e.symm⟩, q⟩⟩
theorem dds {kvs kvs' : List (Key × V)} {key : Str} {v : V} {R : L2.St → Hp → Prop} (hσ : σ[0]? = some (some (.ref a))) (h : H a = some (.dK kvs)) (hl : kvs.length < sizeLine) (e : putK kvs (.inr key) v = kvs') (q : R σ (upd H a (.dK kvs'))) : gDx key v σ H R :=
  ⟨.ref a, hσ, a, _, rfl, .inl ⟨kvs, .inr key, h, rfl, hl, rfl⟩, by rw [e]; exact q⟩
theorem d4 {p g x : Int} : (deckKvs c p g x).length < sizeLine := by show 4 < sizeLine; decide
theorem deckR_tail {m p g x : Int} {H0 : Hp} (hσ0 : σ[0]? = some (some (.ref a))) (hσ1 : σ[1]? = some (some (.int m))) (hl : 4 < σ.length) (hm : 0 < m) (hm2 : m < 1073741824) (hb : 0 ≤ p ∧ 0 ≤ g ∧ 0 ≤ x ∧ x < 2147483647)
    (hH : ∀ d p' g' x', 0 ≤ d → d < m → (0 ≤ p' ∧ 0 ≤ g' ∧ 0 ≤ x' ∧ x' < 2147483647) → Q (.int d) (upd H0 a (.dK (deckKvs c p' g' x')))) (E : Ends) (hE : E.rt = Q) :
    tDeckTail K E σ (upd H0 a (.dK (deckKvs c p g x))) := by
  subst hE
  obtain ⟨b1, b2, b3, b4⟩ := hb
  unfold tDeckTail
  have h0 : (upd H0 a (.dK (deckKvs c p g x))) a = some (.dK (deckKvs c p g x)) := upd_same
  refine ddx hσ0 h0 dv_rest ⟨g, 1, rfl, rfl, decide (1 < g), rfl, ?_⟩
  by_cases hg : 1 < g
  · refine (if_pos (decide_eq_true hg)).mpr ?_
    refine ddx hσ0 h0 dv_rest (.inl ⟨g, rfl, _, hσ1, g, m, rfl, rfl, hm, ?_⟩)
    show tAsg (tOp rDivI (tDx K "rest") (tVar 1)) (gDx "rest") _ (σ.set 3 (some (.int (g % m)))) _
    have k0 : (σ.set 3 (some (V.int (g % m))))[0]? = some (some (.ref a)) := by rw [List.getElem?_set_ne (by decide)]; exact hσ0
    have k1 : (σ.set 3 (some (V.int (g % m))))[1]? = some (some (.int m)) := by rw [List.getElem?_set_ne (by decide)]; exact hσ1
    refine ddx k0 h0 dv_rest ⟨_, k1, g, m, rfl, rfl, ⟨hm, hm2⟩, ?_⟩
    refine dds k0 h0 d4 dp_rest ⟨.int (g % m), ?_, ?_⟩
    · rw [List.getElem?_set_self (by omega)]
    · show E.rt _ (upd (upd _ _ _) _ _)
      rw [upd_upd]
      exact hH _ _ _ _ (Int.emod_nonneg _ (by omega)) (Int.emod_lt_of_pos _ hm) ⟨b1, Int.ediv_nonneg b2 (by omega), b3, b4⟩
  · refine (if_neg (fun z => hg (of_decide_eq_true z))).mpr ?_
    refine ddx hσ0 h0 dv_seed ⟨x, 48271, rfl, rfl, .inr ⟨by decide, by decide⟩, x * 48271, 12345, rfl, rfl, .inl ⟨_, rfl, _, 2147483647, rfl, rfl, (by decide : (0:Int) < 2147483647), ?_⟩⟩
    have d1 := Int.emod_nonneg (x * 48271 + 12345) (show (2147483647:Int) ≠ 0 by decide)
    have d2 := Int.emod_lt_of_pos (x * 48271 + 12345) (show (0:Int) < 2147483647 by decide)
    refine dds hσ0 h0 d4 dp_seed ?_
    rw [upd_upd]
    refine ddx hσ0 upd_same dv_seed (ddx hσ0 upd_same dv_seed ⟨(x * 48271 + 12345) % 2147483647, (x * 48271 + 12345) % 2147483647, rfl, rfl, .inr ⟨by omega, by omega⟩, .inl ⟨_, rfl, _, 2147483399, rfl, rfl, (by decide : (0:Int) < 2147483399), ?_⟩⟩)
    obtain ⟨z, hz⟩ : ∃ z, z = ((x * 48271 + 12345) % 2147483647) * ((x * 48271 + 12345) % 2147483647) % 2147483399 := ⟨_, rfl⟩
    show tRet (tOp rModI (tI1 (tOp rDivI (tVar 4) (tC (.int 13)))) (tVar 1)) _ (σ.set 4 (some (.int (((x * 48271 + 12345) % 2147483647) * ((x * 48271 + 12345) % 2147483647) % 2147483399)))) _
    rw [← hz]
    have k4 : (σ.set 4 (some (V.int z)))[4]? = some (some (.int z)) := List.getElem?_set_self hl
    have k1 : (σ.set 4 (some (V.int z)))[1]? = some (some (.int m)) := by rw [List.getElem?_set_ne (by decide)]; exact hσ1
    refine ⟨_, k4, z, 13, rfl, rfl, ⟨by decide, by decide⟩, .inl ⟨_, rfl, _, k1, _, m, rfl, rfl, hm, ?_⟩⟩
    exact hH _ _ _ _ (Int.emod_nonneg _ (by omega)) (Int.emod_lt_of_pos _ hm) ⟨b1, b2, d1, d2⟩
theorem deckR_head {m p g x : Int} {ns : List Int} (hc : SqL K H c (ns.map V.int)) (hcu : ∀ o, SqL K (upd H a o) c (ns.map V.int)) (ha : H a = some (.dK (deckKvs c p g x))) (hb : 0 ≤ p ∧ 0 ≤ g ∧ 0 ≤ x ∧ x < 2147483647) (hp : p < (ns.length : Int)) (E : Ends)
    (hE : ∀ cell p' g' x', (0 ≤ p' ∧ 0 ≤ g' ∧ 0 ≤ x' ∧ x' < 2147483647) → E.nx [some (.ref a), some (.int m), some (.int cell), none, none] (upd H a (.dK (deckKvs c p' g' x')))) :
    tDeckHead K E [some (.ref a), some (.int m), none, none, none] H := by
  obtain ⟨b1, b2, b3, b4⟩ := hb
  unfold tDeckHead
  have hpn : p.toNat < ns.length := by omega
  have hat : atI (ns.map V.int) p = some (.int ns[p.toNat]) := by
    unfold atI ixN
    rw [List.length_map, if_pos b1, if_pos hp]
    simp [hpn]
  refine ddx rfl ha dv_cells (ddx rfl ha dv_at (.inl ⟨c, _, p, _, rfl, rfl, hc, hat, ?_⟩))
  generalize ns[p.toNat] = cell
  refine ddx (σ := [some (.ref a), some (.int m), some (.int cell), none, none]) rfl ha dv_at ⟨p, 1, rfl, rfl, dds rfl ha d4 dp_at ?_⟩
  refine ddx rfl upd_same dv_seed ⟨x, 31, rfl, rfl, .inr ⟨by decide, by decide⟩, _, rfl, .inl ⟨_, rfl, cell, 2147483563, rfl, rfl, (by decide : (0:Int) < 2147483563), _, _, rfl, rfl, .inl ⟨_, rfl, _, 2147483647, rfl, rfl, (by decide : (0:Int) < 2147483647), ?_⟩⟩⟩
  have d1 := Int.emod_nonneg (x * 31 + cell % 2147483563) (show (2147483647:Int) ≠ 0 by decide)
  have d2 := Int.emod_lt_of_pos (x * 31 + cell % 2147483563) (show (0:Int) < 2147483647 by decide)
  refine dds rfl upd_same d4 dp_seed ?_
  rw [upd_upd]
  refine ⟨_, rfl, 10, 18, rfl, rfl, ⟨by decide, by decide, by decide⟩, cell, (10 : Int) ^ (18 : Int).toNat, rfl, rfl, _, rfl, ?_⟩
  have m60 : (0 : Int) < (10 : Int) ^ (60 : Int).toNat * (10 : Int) ^ (60 : Int).toNat := by decide +kernel
  have l60 : CMulW ((10 : Int) ^ (60 : Int).toNat) ((10 : Int) ^ (60 : Int).toNat) := by unfold CMulW; decide +kernel
  by_cases hc18 : (10 : Int) ^ (18 : Int).toNat ≤ cell
  · refine (if_pos (decide_eq_true hc18)).mpr ?_
    refine ⟨_, rfl, .inl ⟨_, rfl, 10, 60, rfl, rfl, ⟨by decide, by decide, by decide⟩, 10, 60, rfl, rfl, ⟨by decide, by decide, by decide⟩, .inr ⟨_, _, rfl, rfl, l60, cell, _, rfl, rfl, m60, ?_⟩⟩⟩
    refine dds rfl upd_same d4 dp_rest ?_
    rw [upd_upd]
    exact hE cell (p + 1) _ _ ⟨by omega, Int.emod_nonneg _ (by omega), d1, d2⟩
  · refine (if_neg (fun z => hc18 (of_decide_eq_true z))).mpr ?_
    exact hE cell (p + 1) g _ ⟨by omega, b2, d1, d2⟩
theorem deck_reads {vs : List V} {E : XK} (h : spDeck K vs H Q E) (E' : Ends) (hE : E'.rt = Q) : tDeckT K E' (L2.start ["deck", "many", "cell", "digit", "mixed"] vs) H := by
  obtain ⟨a, c, ns, m, p, g, x, rfl, hm, hm2, hc, hn, ha, hb, hQ⟩ := h
  have hcu : ∀ o, SqL K (upd H a o) c (ns.map V.int) := fun o => by
    rcases hc with (h | ⟨u, h⟩) | h
    · by_cases e : c = a
      · subst e
        rw [ha] at h
        cases h
      · exact .inl (.inl (by rw [upd_ne e]; exact h))
    · by_cases e : c = a
      · subst e
        rw [ha] at h
        cases h
      · exact .inl (.inr ⟨u, by rw [upd_ne e]; exact h⟩)
    · exact .inr h
  have eH : upd H a (.dK (deckKvs c p g x)) = H := by
    funext b
    by_cases e : b = a
    · subst e
      rw [upd_same, ha]
    · rw [upd_ne e]
  have s0 : (L2.start ["deck", "many", "cell", "digit", "mixed"] [V.ref a, V.int m]) = [some (.ref a), some (.int m), none, none, none] := rfl
  rw [s0]
  have tail : ∀ (σ : L2.St) (p' g' x' : Int) (k0 : σ[0]? = some (some (.ref a))) (k1 : σ[1]? = some (some (.int m))) (kl : 4 < σ.length) (kb : 0 ≤ p' ∧ 0 ≤ g' ∧ 0 ≤ x' ∧ x' < 2147483647), tDeckTail K E' σ (upd H a (.dK (deckKvs c p' g' x'))) := fun σ p' g' x' k0 k1 kl kb => deckR_tail (K := K) (c := c) (H0 := H) k0 k1 kl hm hm2 kb hQ E' hE
  have miss : tDeckTail K E' [some (.ref a), some (.int m), none, none, none] H := by
    have := tail [some (.ref a), some (.int m), none, none, none] p g x rfl rfl (Nat.lt_succ_self 4) hb
    rw [eH] at this
    exact this
  unfold tDeckT
  refine ddx rfl ha dv_rest ⟨g, 2, rfl, rfl, decide (g < 2), rfl, ?_⟩
  by_cases hg : g < 2
  · refine (if_pos (decide_eq_true hg)).mpr ?_
    refine ddx rfl ha dv_at (ddx rfl ha dv_cells (.inl ⟨_, ns.length, rfl, .inl ⟨_, hc, by simp⟩, p, _, rfl, rfl, decide (p < (ns.length : Int)), rfl, ?_⟩))
    by_cases hp : p < (ns.length : Int)
    · refine (if_pos (decide_eq_true hp)).mpr ?_
      exact deckR_head hc hcu ha hb hp _ fun cell p' g' x' kb => tail [some (.ref a), some (.int m), some (.int cell), none, none] p' g' x' rfl rfl (Nat.lt_succ_self 4) kb
    · exact (if_neg (fun z => hp (of_decide_eq_true z))).mpr miss
  · refine (if_neg (fun z => hg (of_decide_eq_true z))).mpr ?_
    exact (if_neg (by decide)).mpr miss
end
end DL
/-! DL35: list(d.keys()) of a dict keyed by tuples. -/
namespace DL
open PySem PySem.Spec PyProof.Rows L2
section
variable {prog : Program} {w : World} {A : Around} {E : Value → Shared → Prop} {s : Shared} {d v : Addr} {o : Obj} {es : Array DictEntry} {ep : Nat}
theorem kv_iter {Q : Value → Shared → Prop} (hv : PySem.W.KdlKeysView s.heap v d) (ho : s.heap.get? d = some o) (hdat : o.data = .dict es ep)
    (hQ : Q (.ref s.heap.objs.size) { s with heap := s.heap.push { cls := .type "dict_keyiterator", data := .fields #[.ref d, .int 0 0, .int es.size 0, .int ep 0] } }) :
    wpAny (model prog w) A (pyIter (.ref v)) Q E s := by
  obtain ⟨ov, hov, hcv, hdv⟩ := id hv
  refine wpAny_pyIter_slot hv.typeIs PySem.W.kdl_slot_keys_iter (wpAny_call_entry PySem.W.kdl_slot_keys_iter hv.typeIs PySem.W.kdl_entry_keys_iter ?_ (PySem.W.kdl_args_keys_iter _))
  unfold Builtin.«dict_keys.__iter__»
  refine wpAny_bind (wpAny_pure ?_)
  refine wpAny_bind ?_
  unfold Builtin.Dict_items.dictOf
  refine wpAny_bind (wpAny_field hov hdv (x := .ref d) rfl (wpAny_pure ?_))
  refine wpAny_bind ?_
  unfold Builtin.Dict_items.newIterator
  refine wpAny_bind (wpAny_dictEntries ho hdat ?_)
  refine wpAny_bind (wpAny_dictEpoch ho hdat ?_)
  have hown : Builtin.Dict_items.ownsTuple "dict_keyiterator" = false := by decide
  simp only [hown, Bool.false_eq_true, if_false]
  refine wpAny_newObj_type (wpAny_pure ⟨_, rfl, "dict_keyiterator", _, ⟨_, Heap.get?_push_size _ rfl, rfl⟩, PySem.F.slot_dict_keyiterator_next.lookup, ?_⟩)
  simpa [rawInt] using hQ
theorem kdl_rawK (hx : o.ExactDict) (hd : o.data = .dict es ep) :
    PySem.W.KdlSrc prog w "dict_keys" v d es.size (fun i v => ∃ en : DictEntry, es[i]? = some en ∧ v = en.key) (fun h => PySem.W.KdlKeysView h v d ∧ h.get? d = some o) where
  type := fun _ hm => hm.1.typeIs
  there := fun _ hm => ⟨let ⟨_, ho, _⟩ := hm.1; Heap.lt_size ho, Heap.lt_size hm.2⟩
  keep := fun _ _ hm hk => ⟨let ⟨o, ho, x⟩ := hm.1; ⟨o, hk v (.inl rfl) o ho, x⟩, hk d (.inr rfl) _ hm.2⟩
  notList := by decide
  notTuple := by decide
  hint := fun _ _ _ _ hm hq => PySem.W.kdl_hint_keys hm.1.typeIs hq
  iter := fun _ s hh hm => ⟨_, _, (fun _ _ hq => kv_iter hm.1 hm.2 hd hq), walks_raw hh _ d (Nat.ne_of_lt (Heap.lt_size hm.2)) hd, ⟨⟨_, Heap.get?_push_size _ rfl, rfl, rfl⟩, Heap.get?_push_of_some _ hm.2⟩⟩
theorem meets_keysT (d : Addr) (hd : (d == sysModules) = false) :
    MeetsIn prog w (Builtin.«dict.keys» ⟨[.ref d], []⟩) (fun _ R s => s.TypeIs (.ref d) "dict" ∧
      R (.ok (.ret (.ref s.heap.objs.size))) { s with heap := s.heap.push { cls := .type "dict_keys", data := .fields #[.ref d] } }) :=
  .of_wp fun A R s ⟨hm, h⟩ => by
    refine wpAny_bind ?_
    unfold Builtin.Dict.noArgs
    refine wpAny_bind (wpAny_notOrdered_dict hm ?_)
    show wpAny _ _ (pure d) _ _ s
    refine wpAny_pure ?_
    show wpAny _ _ (Builtin.Dict.showsAll d >>= _) _ _ s
    unfold Builtin.Dict.showsAll
    rw [if_neg (by rw [hd]; exact Bool.false_ne_true)]
    refine wpAny_bind (wpAny_pure ?_)
    exact wpAny_bind (wpAny_newObj_type (wpAny_pure ⟨_, rfl, h⟩))
end
def kvO (v d : Addr) : HO := .ext fun h => h.get? v = some { cls := .type "dict_keys", data := .fields #[.ref d] }
theorem kvO_ok {P : Program} {w : World} {H : Hp} {h : Heap} {v d : Addr} (e : h.get? v = some { cls := .type "dict_keys", data := .fields #[.ref d] }) : ObjOk P w H h v (kvO v d) := ⟨e, ⟨_, e⟩, fun h1 h2 q k => k _ q⟩
section
variable {X : Cx} {e : Expr} {te : TE} {apos pos : Pos}
def tKeysT (te : TE) : TE := fun σ H Q => te σ H fun x H1 => ∃ a kvs, x = .ref a ∧ Rd H1 a (.dT kvs) ∧ ∀ v, H1 v = none → Q (.ref v) (upd H1 v (kvO v a))
theorem pe_keysT (he : PE X e te) (hbase : attributeBase e "keys" X.env (eval e X.env) = eval e X.env := by rfl) (hline : (apos.endLine == pos.line) = true := by rfl) : PE X (.Call (.Attribute e "keys" apos) [] [] pos) (tKeysT te) := by
  refine ⟨fun pins s σ H Q I h => ?_⟩
  refine wpAny_Call_method (T := "dict") (id := "dict.keys") hbase rfl hline F.plainAttrs_dict F.slot_dict_keys F.type_dict_keys (thn (he.run pins s σ H _ I h) fun u s1 ⟨x, H1, I1, rx, a, kvs, ex, hd, q⟩ => ?_)
  subst ex
  obtain rfl : u = Value.ref a := rx
  obtain ⟨z, hs, ks, pr, o, es, ep, ho, hx, hdt, he2, hn⟩ := (show ObjOk X.prog X.w H1 s1.heap a (.dT kvs) from hd.ok I1.hok)
  have ty : s1.TypeIs (.ref a) "dict" := ⟨o, ho, hx.1⟩
  refine ⟨ty, fun a1 e1 => by cases e1; exact ⟨o, ho, hx.2.1⟩, ?_⟩
  show wpAny _ _ (callWith pos (.builtin "dict.keys") [.ref a] [] []) _ X.xe s1
  refine method_meetsIn F.slot_dict_keys F.entry_dict_keys rfl (PySem.evalArgs_none ⟨rfl, ty, F.args_dict_keys_1 _, _, meets_keysT a hs, ty, ?_⟩)
  have hv : (s1.heap.push { cls := .type "dict_keys", data := .fields #[.ref a] }).get? s1.heap.objs.size = some { cls := .type "dict_keys", data := .fields #[.ref a] } := Heap.get?_push_size _ rfl
  exact ⟨.ref s1.heap.objs.size, _, I1.laid (t' := s1.toks) (o := kvO s1.heap.objs.size a) (fun b ob q => Heap.get?_push_of_some _ q) (Nat.le_refl _) (kvO_ok hv), rfl, q _ (I1.hok.fresh (Nat.le_refl _))⟩
def rListKV : List V → Hp → VK → Prop := fun xs H Q => ∃ v d kvs, xs = [V.ref v] ∧ H v = some (kvO v d) ∧ Rd H d (.dT kvs) ∧ ∀ p bs, H p = none → IsKeys H kvs bs → Q (.ref p) (upd H p (.lst (bs.map V.ref)))
theorem cr_listKV (hc : X.calm = true) : CallR X (.type "list") rListKV := by
  intro pins s σ H xs us Q I r h
  obtain ⟨v, d, kvs, rfl, hv, hd, q⟩ := h
  obtain ⟨u, rfl, rx⟩ := r.one
  cases rx
  obtain ⟨z, hs, ks, pr, o, es, ep, ho, hx, hdt, he, hn⟩ := (show ObjOk X.prog X.w H s.heap d (.dT kvs) from hd.ok I.hok)
  have hview : PySem.W.KdlKeysView s.heap v d := ⟨_, (I.hok v _ hv).1, rfl, rfl⟩
  have l1 : es.size = ks.length := size_of_entries he
  have l2 : kvs.length = ks.length := Paired.length pr
  refine PySem.W.kdl_call (kdl_rawK hx hdt) (I.ok.hd hc) ⟨hview, ho⟩ (by omega) fun h' tk acc' c' kp e it => ?_
  have ea : acc'.toList = ks.map fun x => Value.ref x.2.1 := by
    have hl : acc'.toList.length = ks.length := by rw [Array.length_toList, it.1]; exact l1
    apply List.ext_getElem?
    intro j
    rw [List.getElem?_map]
    cases hj : acc'.toList[j]? with
    | none =>
      have h1 := List.getElem?_eq_none_iff.mp hj
      rw [List.getElem?_eq_none (by omega)]
      all_goals rfl
    | some v =>
      obtain ⟨en, hen, hv⟩ := it.2 j v (by rw [← Array.getElem?_toList]; exact hj)
      have qe := entry_at he j
      rw [hen] at qe
      cases hb : ks[j]? with
      | none =>
        rw [hb] at qe
        exact nomatch (show some en = none from qe)
      | some b =>
        rw [hb] at qe
        have e2 : en = entryOfKey (tupleKind (mixKind X.prog X.w)) b := Option.some.inj qe
        rw [hv, e2]
        all_goals rfl
  have eb : acc'.toList = (ks.map fun x => x.2.1).map Value.ref := by rw [ea, List.map_map]; all_goals rfl
  have rv : Vals ((ks.map fun x => x.2.1).map V.ref) acc'.toList := by rw [eb]; exact vals_refs _
  have hz : ((ks.map fun x => x.2.1).map V.ref).length ≤ sizeLine := by rw [List.length_map, List.length_map]; omega
  refine ⟨.ref s.heap.objs.size, _, I.laid (t' := tk) (o := .lst ((ks.map fun x => x.2.1).map V.ref)) kp (Nat.le_refl _) ?_, rfl, q _ _ (I.hok.fresh (Nat.le_refl _)) (isKeys_of pr)⟩
  exact ⟨hz, acc'.toList, c', rv, by rw [Array.toArray_toList]; exact e⟩
end
/-! over trees -/
def oListKT : O1 := fun x R => match x with
  | .dit ks _ => R (.l (ks.map keyD))
  | _ => False
theorem isKeys_pairs {H : Hp} {kvs : List (List Key × V)} {bs : List Addr} (h : IsKeys H kvs bs) : ∃ cs : List (V × D), cs.map (·.1) = bs.map V.ref ∧ cs.map (·.2) = kvs.map (fun p => keyD p.1) ∧ ∀ c ∈ cs, IsKD H c := by
  unfold IsKeys at h
  induction h with
  | nil => exact ⟨[], rfl, rfl, fun _ z => nomatch z⟩
  | @cons p b l1 l2 h t ih =>
    obtain ⟨cs, e1, e2, e3⟩ := ih
    refine ⟨(.ref b, keyD p.1) :: cs, by rw [List.map_cons, List.map_cons, e1], by rw [List.map_cons, List.map_cons, e2], fun c hc => ?_⟩
    rcases List.mem_cons.mp hc with rfl | hc
    · exact ⟨b, p.1, rfl, h, rfl⟩
    · exact e3 c hc
section
variable {X : Cx} {e : Expr} {φ : PhiE} {x : Str} {p apos cpos pos : Pos}
theorem de_listKT (hc : X.calm = true) (he : PE X e (liftE X.K φ)) (hg : Gl X "list") (hm : X.mg "list" = none) (hbase : attributeBase e "keys" X.env (eval e X.env) = eval e X.env := by rfl) (hline : (apos.endLine == cpos.line) = true := by rfl)
    (hs1 : starEach [.Call (.Attribute e "keys" apos) [] [] cpos] X.env = (false, eval (.Call (.Attribute e "keys" apos) [] [] cpos) X.env) :: starEach [] X.env := by rfl) (hpl : (backTo pos (starEach ([] : List Expr) X.env)).any (·.1) = false := by rfl) :
    PE X (.Call (.Name "list" p) [.Call (.Attribute e "keys" apos) [] [] cpos] [] pos) (liftE X.K (eUn oListKT φ)) :=
  (pe_callTy (cr_listKV hc) hg hm (by decide +kernel) (pa_cons (pe_keysT he hbase hline) pa_nil rfl) (by decide) (by decide) hs1 hpl).imp fun σ H Q q => by
    refine un_of (X := X) (r := fun y H1 Q => ∃ a kvs, y = .ref a ∧ Rd H1 a (.dT kvs) ∧ ∀ v, H1 v = none → rListKV [.ref v] (upd H1 v (kvO v a)) Q) (o := oListKT) (fun G U H μ y d R Q b l h k => ?_) q
    cases d with
    | dit ks ds =>
      obtain ⟨a, us, rfl, h1, h2, h3⟩ := l.dit b
      have e0 : (ks.zip us).map (fun p => keyD p.1) = ks.map keyD := by
        have : (ks.zip us).map (·.1) = ks := List.map_fst_zip (by omega)
        have e0 : (ks.zip us).map (fun p => keyD p.1) = ((ks.zip us).map (·.1)).map keyD := by rw [List.map_map]; rfl
        rw [e0, this]
      refine ⟨a, ks.zip us, rfl, h1, fun v hv => ⟨v, a, ks.zip us, rfl, upd_same, same_rd (same_new hv) h1, fun p bs hp hk => ?_⟩⟩
      obtain ⟨cs, c1, c2, c3⟩ := isKeys_pairs hk
      have b1 := (b.new (o := kvO v a) hv).1
      obtain ⟨G', s1, b2, dv⟩ := b1.tups c3
      have kk : Con X.K G' U μ R Q := fun r v G2 H2 q e4 b4 hv => k r v G2 H2 q (s1.trans e4) b4 hv
      have hr : R (.l (ks.map keyD)) := h
      rw [← e0, ← c2] at hr
      rw [← c1]
      exact kk.lst b2 (DVs.ofPairs dv) hr hp
    | _ => exact h.elim
theorem xListKT {ks : List (List Key)} {ds : List D} {R : Sl → Prop} : oListKT (.dit ks ds) R = R (.l (ks.map keyD)) := propext Iff.rfl
end
section
variable {α : Type} {f : α → D} {rows : Rw α}
theorem xListKR {R : Sl → Prop} : oListKT (rDit f rows) R = R (.l ((rows.map (·.1)).map ip)) := by
  show R (.l ((rows.map fun r => kP r.1).map keyD)) = _
  rw [show (rows.map fun r => kP r.1) = (rows.map (·.1)).map kP from by rw [List.map_map]; rfl, keyD_kPs]
end
end DL
/-! DL36: the deck's making. -/
namespace DL
open PySem PySem.Spec PyProof.Rows L2
def BDeck : PhiS := sSet 2 (eOp oMod (eUn oInt (eOp oAdd (eOp oAdd (eOp oMul (eV 2) (eC (.int 69621))) (eOp oMod (eUn oInt (eV 3)) (eC (.int 2147483587)))) (eC (.int 17)))) (eC (.int 2147483647)))
theorem BDeck_eq {Δ : DE} {ρ : List Sl} {μ : Mu} : BDeck Δ ⟨ρ, μ⟩ = sSet 2 (eOp oMod (eUn oInt (eOp oAdd (eOp oAdd (eOp oMul (eV 2) (eC (.int 69621))) (eOp oMod (eUn oInt (eV 3)) (eC (.int 2147483587)))) (eC (.int 17)))) (eC (.int 2147483647))) Δ ⟨ρ, μ⟩ := propext Iff.rfl
def EDeck : PhiE := eUn oInt (eV 3)
theorem EDeck_eq {R : Sl → S → Prop} {ρ : List Sl} {μ : Mu} : EDeck ⟨ρ, μ⟩ R = (eUn oInt (eV 3) : PhiE) ⟨ρ, μ⟩ R := propext Iff.rfl
def ΦDeck : PhiS :=
  sSeq (sSet 2 (eV 1))
  (sSeq (sFor (iE (eSl (eV 0) (pNone) (pSome (eC (.int 63))))) (gN 3) (BDeck))
  (sRet (eDisp [(.inr "cells", eLc (iE (eSl (eV 0) (pNone) (pSome (eC (.int 63))))) [3] (gN 3) (fun s R => R true s) (EDeck)), (.inr "at", eC (.int 0)), (.inr "rest", eC (.int 1)), (.inr "seed", eV 2)])))
theorem deck_loop {A B : D} {Δ : DE} {μ : Mu} : ∀ (ns : List Int) (s : Int) (x : Sl), 0 ≤ s → s < 2147483647 → (∀ s x, 0 ≤ s → s < 2147483647 → Δ.nx ⟨[.d A, .d B, .d (.int s), x], μ⟩) → forL (gN 3) BDeck Δ (ns.map D.int) ⟨[.d A, .d B, .d (.int s), x], μ⟩
  | [], s, x, h0, h1, h => h s x h0 h1
  | n :: ns, s, x, h0, h1, h => by
    simp only [List.map_cons, forL_cons, BDeck_eq, xEq_ii, xEq_ss, xEq_nn, xEq_bb, xEq_ni, xEq_in, xNe_ii, xNe_ss, xLt_ii, xGt_ii, xLe_ii, xGe_ii, xAdd_ii, xAdd_ss, xAdd_tt, xAdd_ll, xSub_ii, xMul_ii, xDiv_ii, xMod_ii, xPow_ii, xNeg_i, xInt_i, xInt_b, xLen_t, xLen_l, xLen_s, xLen_d, xTuple_l, xTuple_t, xList_l, xList_t, xIx_t, xIx_l, xIx_s, xIx_di, xIx_ds, at0, at1, at2, at3, at4, at5, at6, at7, xIs_nn, xIs_i, xIs_s, xIs_b, xIs_t, xIs_l, xIs_d, xIsB_n, xIsB_i, xIsB_s, xIsB_b, yInt_i, yInt_b, yInt_n, yInt_s, yInt_t, yInt_l, yBool_i, yBool_b, yBool_n, yBool_s, yBool_t, yBool_l, yStr_i, yStr_b, yStr_n, yStr_s, yStr_t, yStr_l, yTup_i, yTup_b, yTup_n, yTup_s, yTup_t, yTup_l, yLst_i, yLst_n, yLst_s, yLst_t, yLst_l, xIn_it, xIn_il, xIn_sd, xLt_pp, xGt_pp, xLe_pp, xGe_pp, xII, z0, z1, z2, zput0, zput1, zC, zV, zv_d, zv_l, zv_k, zOp, zUn, zlk_d, zlk_l, zlk_k, zlk_b, zls_d, zls_l, zls_k, zfz_d, zfz_l, zfz_k, zfz_b, zfr_l, zfr_k, zfr_d, ztB, zbk, ztT, ztr_b, ztr_i, ztr_n, ztr_t, ztr_l, ztr_s, ztAnd, ztOr, ztNot, zeAnd, zeOr, zeNot, zeIf, zaNil, zaCons, zTup, zLst, zCB, zCall, zCallK, zfdn, zDicK, zpNone, zpSome, zpsk, zSl, zChain, zchk, zSeq, zsNil, zBreak, zCont, zIf, zSet, zs_d, zs_l, zs_k, zs_b, zRet, zr_d, zr_l, zr_k, zr_b, zRetN, zDrop, zFor, ziE, zit_t, zit_l, zit_s, zR1, zr1, zR2, zr2, zgN, zAsg, zgT, zgsC, zgsN, zApp, zap0, zap, zLc, zclr, zclr2, zbck, zkeep_d, zkeep_n, zDP, zdp0, zdp, zky_i, zky_s, xSorted, xNe_bb, zPop, zpopk, zExt, zextk, zextk2, xUpper, xInW, xIxW, xLt_ss, xLe_ss, xGt_ss, xSl_t, xSl_l, xSl_s, zlNil, zlCons, zpin_d, zpin_l, zpin_k, zpin_b, zlkL0, zlkL1, zCallL, zimm_d, zimm_l, zimm_k, zimm_i, zimm_s, zimm_b, zimm_n, zimm_t, zimm_0, zimm_1, zSortSet, xInS_t, xInS_l, zRaise, zCallX, zfdnX, zTryAs, zTryMany, zIsE, ztryX, zDicT, zv_t, zlk_t, zls_t, zfz_t, zfr_t, zs_t, zr_t, zTP, ztp0, ztp, zty_ii, zEnu, zenuk, zAsg2, xAbs_i, zIndex, zisLst, xSrtT, xIx_tl, xIx_dt, xLen_tl, zit_tl, xIn_tl, zAug, zaugk, xAddI, List.length_cons, List.length_nil, List.nil_append, List.append_nil, List.cons_append, true_and, and_true, reduceIte, if_true, if_false, decide_eq_true_eq, Bool.not_true, Bool.not_false, Bool.not_eq_true, Bool.false_eq_true, Nat.reduceAdd, Nat.zero_add, Bool.not_eq_false, decide_false, decide_true, Bool.not_eq_eq_eq_not, Bool.true_eq, decide_not, Bool.not_not, decide_eq_false_iff_not, eq_self]
    refine ⟨cMul_small (by decide) (by decide), by decide, by decide, ?_⟩
    exact deck_loop ns _ _ (Int.emod_nonneg _ (by decide)) (Int.emod_lt_of_pos _ (by decide)) h
theorem deck_lc {A B : D} {x2 y : Sl} {s0 : S} (hs0 : get s0.ρ 3 = y) {μ : Mu} {RE : Sl → S → Prop} : ∀ (ns : List Int) (acc : List D) (x : Sl), acc.length + ns.length < 100000 → RE (.l (acc ++ ns.map D.int)) ⟨[.d A, .d B, x2, keepD y], μ⟩ →
    lcL [3] s0 (gN 3) (fun s R => R true s) EDeck RE (ns.map D.int) acc ⟨[.d A, .d B, x2, x], μ⟩
  | [], acc, x, hl, h => by
    simp only [List.map_nil, lcL_nil, zbck, hs0, xEq_ii, xEq_ss, xEq_nn, xEq_bb, xEq_ni, xEq_in, xNe_ii, xNe_ss, xLt_ii, xGt_ii, xLe_ii, xGe_ii, xAdd_ii, xAdd_ss, xAdd_tt, xAdd_ll, xSub_ii, xMul_ii, xDiv_ii, xMod_ii, xPow_ii, xNeg_i, xInt_i, xInt_b, xLen_t, xLen_l, xLen_s, xLen_d, xTuple_l, xTuple_t, xList_l, xList_t, xIx_t, xIx_l, xIx_s, xIx_di, xIx_ds, at0, at1, at2, at3, at4, at5, at6, at7, xIs_nn, xIs_i, xIs_s, xIs_b, xIs_t, xIs_l, xIs_d, xIsB_n, xIsB_i, xIsB_s, xIsB_b, yInt_i, yInt_b, yInt_n, yInt_s, yInt_t, yInt_l, yBool_i, yBool_b, yBool_n, yBool_s, yBool_t, yBool_l, yStr_i, yStr_b, yStr_n, yStr_s, yStr_t, yStr_l, yTup_i, yTup_b, yTup_n, yTup_s, yTup_t, yTup_l, yLst_i, yLst_n, yLst_s, yLst_t, yLst_l, xIn_it, xIn_il, xIn_sd, xLt_pp, xGt_pp, xLe_pp, xGe_pp, xII, z0, z1, z2, zput0, zput1, zC, zV, zv_d, zv_l, zv_k, zOp, zUn, zlk_d, zlk_l, zlk_k, zlk_b, zls_d, zls_l, zls_k, zfz_d, zfz_l, zfz_k, zfz_b, zfr_l, zfr_k, zfr_d, ztB, zbk, ztT, ztr_b, ztr_i, ztr_n, ztr_t, ztr_l, ztr_s, ztAnd, ztOr, ztNot, zeAnd, zeOr, zeNot, zeIf, zaNil, zaCons, zTup, zLst, zCB, zCall, zCallK, zfdn, zDicK, zpNone, zpSome, zpsk, zSl, zChain, zchk, zSeq, zsNil, zBreak, zCont, zIf, zSet, zs_d, zs_l, zs_k, zs_b, zRet, zr_d, zr_l, zr_k, zr_b, zRetN, zDrop, zFor, ziE, zit_t, zit_l, zit_s, zR1, zr1, zR2, zr2, zgN, zAsg, zgT, zgsC, zgsN, zApp, zap0, zap, zLc, zclr, zclr2, zbck, zkeep_d, zkeep_n, zDP, zdp0, zdp, zky_i, zky_s, xSorted, xNe_bb, zPop, zpopk, zExt, zextk, zextk2, xUpper, xInW, xIxW, xLt_ss, xLe_ss, xGt_ss, xSl_t, xSl_l, xSl_s, zlNil, zlCons, zpin_d, zpin_l, zpin_k, zpin_b, zlkL0, zlkL1, zCallL, zimm_d, zimm_l, zimm_k, zimm_i, zimm_s, zimm_b, zimm_n, zimm_t, zimm_0, zimm_1, zSortSet, xInS_t, xInS_l, zRaise, zCallX, zfdnX, zTryAs, zTryMany, zIsE, ztryX, zDicT, zv_t, zlk_t, zls_t, zfz_t, zfr_t, zs_t, zr_t, zTP, ztp0, ztp, zty_ii, zEnu, zenuk, zAsg2, xAbs_i, zIndex, zisLst, xSrtT, xIx_tl, xIx_dt, xLen_tl, zit_tl, xIn_tl, zAug, zaugk, xAddI, List.length_cons, List.length_nil, List.nil_append, List.append_nil, List.cons_append, true_and, and_true, reduceIte, if_true, if_false, decide_eq_true_eq, Bool.not_true, Bool.not_false, Bool.not_eq_true, Bool.false_eq_true, Nat.reduceAdd, Nat.zero_add, Bool.not_eq_false, decide_false, decide_true, Bool.not_eq_eq_eq_not, Bool.true_eq, decide_not, Bool.not_not, decide_eq_false_iff_not, eq_self]
    simpa using h
  | n :: ns, acc, x, hl, h => by
    have big : 100000 < sizeLine := by decide
    simp only [List.length_cons] at hl
    simp only [List.map_cons, lcL_cons, EDeck_eq, xEq_ii, xEq_ss, xEq_nn, xEq_bb, xEq_ni, xEq_in, xNe_ii, xNe_ss, xLt_ii, xGt_ii, xLe_ii, xGe_ii, xAdd_ii, xAdd_ss, xAdd_tt, xAdd_ll, xSub_ii, xMul_ii, xDiv_ii, xMod_ii, xPow_ii, xNeg_i, xInt_i, xInt_b, xLen_t, xLen_l, xLen_s, xLen_d, xTuple_l, xTuple_t, xList_l, xList_t, xIx_t, xIx_l, xIx_s, xIx_di, xIx_ds, at0, at1, at2, at3, at4, at5, at6, at7, xIs_nn, xIs_i, xIs_s, xIs_b, xIs_t, xIs_l, xIs_d, xIsB_n, xIsB_i, xIsB_s, xIsB_b, yInt_i, yInt_b, yInt_n, yInt_s, yInt_t, yInt_l, yBool_i, yBool_b, yBool_n, yBool_s, yBool_t, yBool_l, yStr_i, yStr_b, yStr_n, yStr_s, yStr_t, yStr_l, yTup_i, yTup_b, yTup_n, yTup_s, yTup_t, yTup_l, yLst_i, yLst_n, yLst_s, yLst_t, yLst_l, xIn_it, xIn_il, xIn_sd, xLt_pp, xGt_pp, xLe_pp, xGe_pp, xII, z0, z1, z2, zput0, zput1, zC, zV, zv_d, zv_l, zv_k, zOp, zUn, zlk_d, zlk_l, zlk_k, zlk_b, zls_d, zls_l, zls_k, zfz_d, zfz_l, zfz_k, zfz_b, zfr_l, zfr_k, zfr_d, ztB, zbk, ztT, ztr_b, ztr_i, ztr_n, ztr_t, ztr_l, ztr_s, ztAnd, ztOr, ztNot, zeAnd, zeOr, zeNot, zeIf, zaNil, zaCons, zTup, zLst, zCB, zCall, zCallK, zfdn, zDicK, zpNone, zpSome, zpsk, zSl, zChain, zchk, zSeq, zsNil, zBreak, zCont, zIf, zSet, zs_d, zs_l, zs_k, zs_b, zRet, zr_d, zr_l, zr_k, zr_b, zRetN, zDrop, zFor, ziE, zit_t, zit_l, zit_s, zR1, zr1, zR2, zr2, zgN, zAsg, zgT, zgsC, zgsN, zApp, zap0, zap, zLc, zclr, zclr2, zbck, zkeep_d, zkeep_n, zDP, zdp0, zdp, zky_i, zky_s, xSorted, xNe_bb, zPop, zpopk, zExt, zextk, zextk2, xUpper, xInW, xIxW, xLt_ss, xLe_ss, xGt_ss, xSl_t, xSl_l, xSl_s, zlNil, zlCons, zpin_d, zpin_l, zpin_k, zpin_b, zlkL0, zlkL1, zCallL, zimm_d, zimm_l, zimm_k, zimm_i, zimm_s, zimm_b, zimm_n, zimm_t, zimm_0, zimm_1, zSortSet, xInS_t, xInS_l, zRaise, zCallX, zfdnX, zTryAs, zTryMany, zIsE, ztryX, zDicT, zv_t, zlk_t, zls_t, zfz_t, zfr_t, zs_t, zr_t, zTP, ztp0, ztp, zty_ii, zEnu, zenuk, zAsg2, xAbs_i, zIndex, zisLst, xSrtT, xIx_tl, xIx_dt, xLen_tl, zit_tl, xIn_tl, zAug, zaugk, xAddI, List.length_cons, List.length_nil, List.nil_append, List.append_nil, List.cons_append, true_and, and_true, reduceIte, if_true, if_false, decide_eq_true_eq, Bool.not_true, Bool.not_false, Bool.not_eq_true, Bool.false_eq_true, Nat.reduceAdd, Nat.zero_add, Bool.not_eq_false, decide_false, decide_true, Bool.not_eq_eq_eq_not, Bool.true_eq, decide_not, Bool.not_not, decide_eq_false_iff_not, eq_self]
    exact ⟨by omega, deck_lc hs0 ns (acc ++ [.int n]) .no (by simp; omega) (by rw [List.append_assoc]; exact h)⟩
theorem deck_h0 (ns : List Int) (salt : Int) (μ : Mu) (h : ns.length ≤ 63) (s0 : 0 ≤ salt) (s1 : salt < 2147483647) : body 4 ΦDeck [.lst (ns.map D.int), .int salt] μ fun r μ' => μ' = μ ∧ ∃ (ms : List Int) (x0 : Int), ms.length ≤ 63 ∧ (0 ≤ x0 ∧ x0 < 2147483647) ∧ r = .k [.inr "cells", .inr "at", .inr "rest", .inr "seed"] [.lst (ms.map D.int), .int 0, .int 1, .int x0] := by
  show ΦDeck _ ⟨[.d (.lst (ns.map D.int)), .d (.int salt), .no, .no], μ⟩
  have hl := cut_len ns none (some 63)
  simp only [ΦDeck, xEq_ii, xEq_ss, xEq_nn, xEq_bb, xEq_ni, xEq_in, xNe_ii, xNe_ss, xLt_ii, xGt_ii, xLe_ii, xGe_ii, xAdd_ii, xAdd_ss, xAdd_tt, xAdd_ll, xSub_ii, xMul_ii, xDiv_ii, xMod_ii, xPow_ii, xNeg_i, xInt_i, xInt_b, xLen_t, xLen_l, xLen_s, xLen_d, xTuple_l, xTuple_t, xList_l, xList_t, xIx_t, xIx_l, xIx_s, xIx_di, xIx_ds, at0, at1, at2, at3, at4, at5, at6, at7, xIs_nn, xIs_i, xIs_s, xIs_b, xIs_t, xIs_l, xIs_d, xIsB_n, xIsB_i, xIsB_s, xIsB_b, yInt_i, yInt_b, yInt_n, yInt_s, yInt_t, yInt_l, yBool_i, yBool_b, yBool_n, yBool_s, yBool_t, yBool_l, yStr_i, yStr_b, yStr_n, yStr_s, yStr_t, yStr_l, yTup_i, yTup_b, yTup_n, yTup_s, yTup_t, yTup_l, yLst_i, yLst_n, yLst_s, yLst_t, yLst_l, xIn_it, xIn_il, xIn_sd, xLt_pp, xGt_pp, xLe_pp, xGe_pp, xII, z0, z1, z2, zput0, zput1, zC, zV, zv_d, zv_l, zv_k, zOp, zUn, zlk_d, zlk_l, zlk_k, zlk_b, zls_d, zls_l, zls_k, zfz_d, zfz_l, zfz_k, zfz_b, zfr_l, zfr_k, zfr_d, ztB, zbk, ztT, ztr_b, ztr_i, ztr_n, ztr_t, ztr_l, ztr_s, ztAnd, ztOr, ztNot, zeAnd, zeOr, zeNot, zeIf, zaNil, zaCons, zTup, zLst, zCB, zCall, zCallK, zfdn, zDicK, zpNone, zpSome, zpsk, zSl, zChain, zchk, zSeq, zsNil, zBreak, zCont, zIf, zSet, zs_d, zs_l, zs_k, zs_b, zRet, zr_d, zr_l, zr_k, zr_b, zRetN, zDrop, zFor, ziE, zit_t, zit_l, zit_s, zR1, zr1, zR2, zr2, zgN, zAsg, zgT, zgsC, zgsN, zApp, zap0, zap, zLc, zclr, zclr2, zbck, zkeep_d, zkeep_n, zDP, zdp0, zdp, zky_i, zky_s, xSorted, xNe_bb, zPop, zpopk, zExt, zextk, zextk2, xUpper, xInW, xIxW, xLt_ss, xLe_ss, xGt_ss, xSl_t, xSl_l, xSl_s, zlNil, zlCons, zpin_d, zpin_l, zpin_k, zpin_b, zlkL0, zlkL1, zCallL, zimm_d, zimm_l, zimm_k, zimm_i, zimm_s, zimm_b, zimm_n, zimm_t, zimm_0, zimm_1, zSortSet, xInS_t, xInS_l, zRaise, zCallX, zfdnX, zTryAs, zTryMany, zIsE, ztryX, zDicT, zv_t, zlk_t, zls_t, zfz_t, zfr_t, zs_t, zr_t, zTP, ztp0, ztp, zty_ii, zEnu, zenuk, zAsg2, xAbs_i, zIndex, zisLst, xSrtT, xIx_tl, xIx_dt, xLen_tl, zit_tl, xIn_tl, zAug, zaugk, xAddI, List.length_cons, List.length_nil, List.nil_append, List.append_nil, List.cons_append, true_and, and_true, reduceIte, if_true, if_false, decide_eq_true_eq, Bool.not_true, Bool.not_false, Bool.not_eq_true, Bool.false_eq_true, Nat.reduceAdd, Nat.zero_add, Bool.not_eq_false, decide_false, decide_true, Bool.not_eq_eq_eq_not, Bool.true_eq, decide_not, Bool.not_not, decide_eq_false_iff_not, eq_self, cut_ints]
  refine deck_loop _ _ _ s0 s1 fun s x t0 t1 => ?_
  simp only [xEq_ii, xEq_ss, xEq_nn, xEq_bb, xEq_ni, xEq_in, xNe_ii, xNe_ss, xLt_ii, xGt_ii, xLe_ii, xGe_ii, xAdd_ii, xAdd_ss, xAdd_tt, xAdd_ll, xSub_ii, xMul_ii, xDiv_ii, xMod_ii, xPow_ii, xNeg_i, xInt_i, xInt_b, xLen_t, xLen_l, xLen_s, xLen_d, xTuple_l, xTuple_t, xList_l, xList_t, xIx_t, xIx_l, xIx_s, xIx_di, xIx_ds, at0, at1, at2, at3, at4, at5, at6, at7, xIs_nn, xIs_i, xIs_s, xIs_b, xIs_t, xIs_l, xIs_d, xIsB_n, xIsB_i, xIsB_s, xIsB_b, yInt_i, yInt_b, yInt_n, yInt_s, yInt_t, yInt_l, yBool_i, yBool_b, yBool_n, yBool_s, yBool_t, yBool_l, yStr_i, yStr_b, yStr_n, yStr_s, yStr_t, yStr_l, yTup_i, yTup_b, yTup_n, yTup_s, yTup_t, yTup_l, yLst_i, yLst_n, yLst_s, yLst_t, yLst_l, xIn_it, xIn_il, xIn_sd, xLt_pp, xGt_pp, xLe_pp, xGe_pp, xII, z0, z1, z2, zput0, zput1, zC, zV, zv_d, zv_l, zv_k, zOp, zUn, zlk_d, zlk_l, zlk_k, zlk_b, zls_d, zls_l, zls_k, zfz_d, zfz_l, zfz_k, zfz_b, zfr_l, zfr_k, zfr_d, ztB, zbk, ztT, ztr_b, ztr_i, ztr_n, ztr_t, ztr_l, ztr_s, ztAnd, ztOr, ztNot, zeAnd, zeOr, zeNot, zeIf, zaNil, zaCons, zTup, zLst, zCB, zCall, zCallK, zfdn, zDicK, zpNone, zpSome, zpsk, zSl, zChain, zchk, zSeq, zsNil, zBreak, zCont, zIf, zSet, zs_d, zs_l, zs_k, zs_b, zRet, zr_d, zr_l, zr_k, zr_b, zRetN, zDrop, zFor, ziE, zit_t, zit_l, zit_s, zR1, zr1, zR2, zr2, zgN, zAsg, zgT, zgsC, zgsN, zApp, zap0, zap, zLc, zclr, zclr2, zbck, zkeep_d, zkeep_n, zDP, zdp0, zdp, zky_i, zky_s, xSorted, xNe_bb, zPop, zpopk, zExt, zextk, zextk2, xUpper, xInW, xIxW, xLt_ss, xLe_ss, xGt_ss, xSl_t, xSl_l, xSl_s, zlNil, zlCons, zpin_d, zpin_l, zpin_k, zpin_b, zlkL0, zlkL1, zCallL, zimm_d, zimm_l, zimm_k, zimm_i, zimm_s, zimm_b, zimm_n, zimm_t, zimm_0, zimm_1, zSortSet, xInS_t, xInS_l, zRaise, zCallX, zfdnX, zTryAs, zTryMany, zIsE, ztryX, zDicT, zv_t, zlk_t, zls_t, zfz_t, zfr_t, zs_t, zr_t, zTP, ztp0, ztp, zty_ii, zEnu, zenuk, zAsg2, xAbs_i, zIndex, zisLst, xSrtT, xIx_tl, xIx_dt, xLen_tl, zit_tl, xIn_tl, zAug, zaugk, xAddI, List.length_cons, List.length_nil, List.nil_append, List.append_nil, List.cons_append, true_and, and_true, reduceIte, if_true, if_false, decide_eq_true_eq, Bool.not_true, Bool.not_false, Bool.not_eq_true, Bool.false_eq_true, Nat.reduceAdd, Nat.zero_add, Bool.not_eq_false, decide_false, decide_true, Bool.not_eq_eq_eq_not, Bool.true_eq, decide_not, Bool.not_not, decide_eq_false_iff_not, eq_self, zSetd, zset0, zset1, zkeyi, zkeys, zTupM, ztupM, zmlk, zDcK, zGet, zisDic, zgetk, zLR, zlrk, zDisp, zdsp0, zdspC, zTPop, ztpop, zEnT, zenukT, cut_ints]
  refine deck_lc (y := x) ?hs _ [] _ (by simp; omega) ?_
  case hs => rfl
  simp only [xEq_ii, xEq_ss, xEq_nn, xEq_bb, xEq_ni, xEq_in, xNe_ii, xNe_ss, xLt_ii, xGt_ii, xLe_ii, xGe_ii, xAdd_ii, xAdd_ss, xAdd_tt, xAdd_ll, xSub_ii, xMul_ii, xDiv_ii, xMod_ii, xPow_ii, xNeg_i, xInt_i, xInt_b, xLen_t, xLen_l, xLen_s, xLen_d, xTuple_l, xTuple_t, xList_l, xList_t, xIx_t, xIx_l, xIx_s, xIx_di, xIx_ds, at0, at1, at2, at3, at4, at5, at6, at7, xIs_nn, xIs_i, xIs_s, xIs_b, xIs_t, xIs_l, xIs_d, xIsB_n, xIsB_i, xIsB_s, xIsB_b, yInt_i, yInt_b, yInt_n, yInt_s, yInt_t, yInt_l, yBool_i, yBool_b, yBool_n, yBool_s, yBool_t, yBool_l, yStr_i, yStr_b, yStr_n, yStr_s, yStr_t, yStr_l, yTup_i, yTup_b, yTup_n, yTup_s, yTup_t, yTup_l, yLst_i, yLst_n, yLst_s, yLst_t, yLst_l, xIn_it, xIn_il, xIn_sd, xLt_pp, xGt_pp, xLe_pp, xGe_pp, xII, z0, z1, z2, zput0, zput1, zC, zV, zv_d, zv_l, zv_k, zOp, zUn, zlk_d, zlk_l, zlk_k, zlk_b, zls_d, zls_l, zls_k, zfz_d, zfz_l, zfz_k, zfz_b, zfr_l, zfr_k, zfr_d, ztB, zbk, ztT, ztr_b, ztr_i, ztr_n, ztr_t, ztr_l, ztr_s, ztAnd, ztOr, ztNot, zeAnd, zeOr, zeNot, zeIf, zaNil, zaCons, zTup, zLst, zCB, zCall, zCallK, zfdn, zDicK, zpNone, zpSome, zpsk, zSl, zChain, zchk, zSeq, zsNil, zBreak, zCont, zIf, zSet, zs_d, zs_l, zs_k, zs_b, zRet, zr_d, zr_l, zr_k, zr_b, zRetN, zDrop, zFor, ziE, zit_t, zit_l, zit_s, zR1, zr1, zR2, zr2, zgN, zAsg, zgT, zgsC, zgsN, zApp, zap0, zap, zLc, zclr, zclr2, zbck, zkeep_d, zkeep_n, zDP, zdp0, zdp, zky_i, zky_s, xSorted, xNe_bb, zPop, zpopk, zExt, zextk, zextk2, xUpper, xInW, xIxW, xLt_ss, xLe_ss, xGt_ss, xSl_t, xSl_l, xSl_s, zlNil, zlCons, zpin_d, zpin_l, zpin_k, zpin_b, zlkL0, zlkL1, zCallL, zimm_d, zimm_l, zimm_k, zimm_i, zimm_s, zimm_b, zimm_n, zimm_t, zimm_0, zimm_1, zSortSet, xInS_t, xInS_l, zRaise, zCallX, zfdnX, zTryAs, zTryMany, zIsE, ztryX, zDicT, zv_t, zlk_t, zls_t, zfz_t, zfr_t, zs_t, zr_t, zTP, ztp0, ztp, zty_ii, zEnu, zenuk, zAsg2, xAbs_i, zIndex, zisLst, xSrtT, xIx_tl, xIx_dt, xLen_tl, zit_tl, xIn_tl, zAug, zaugk, xAddI, List.length_cons, List.length_nil, List.nil_append, List.append_nil, List.cons_append, true_and, and_true, reduceIte, if_true, if_false, decide_eq_true_eq, Bool.not_true, Bool.not_false, Bool.not_eq_true, Bool.false_eq_true, Nat.reduceAdd, Nat.zero_add, Bool.not_eq_false, decide_false, decide_true, Bool.not_eq_eq_eq_not, Bool.true_eq, decide_not, Bool.not_not, decide_eq_false_iff_not, eq_self, zSetd, zset0, zset1, zkeyi, zkeys, zTupM, ztupM, zmlk, zDcK, zGet, zisDic, zgetk, zLR, zlrk, zDisp, zdsp0, zdspC, zTPop, ztpop, zEnT, zenukT, List.map_cons, List.map_nil]
  exact ⟨DL.cutD ns none (some 63), s, by omega, ⟨t0, t1⟩, rfl⟩
end DL
namespace K20
open PySem PySem.Spec PyProof.Rows L2 DL
variable [Wd]
def Φ_is_measure : PhiS :=
  sRet (eAnd (eUn (oIsT (isOnly "str")) (eV 0)) (eOp (oIn fun b => b) (eV 0) (eC (.tpl [.str "count", .str "first", .str "greatest", .str "last", .str "least", .str "squares", .str "sum"]))))
def fn_is_measure : FD := body 1 Φ_is_measure
def Φ_is_int : PhiS :=
  sRet (eAnd (eUn (oIsT isInt) (eV 0)) (eNot (tB (eUn (oIsT (isOnly "bool")) (eV 0)))))
def fn_is_int : FD := body 1 Φ_is_int
def Φ_is_count : PhiS :=
  sRet (eAnd (eCall (fdn 1 (fn_is_int)) [] (aCons (eV 0) (aNil))) (eOp oGe (eV 0) (eC (.int 0))))
def fn_is_count : FD := body 1 Φ_is_count
def Φ_is_int_within : PhiS :=
  sRet (eAnd (eCall (fdn 1 (fn_is_int)) [] (aCons (eV 0) (aNil))) (eChain oLe oLe (eV 1) (eV 0) (eV 2)))
def fn_is_int_within : FD := body 3 Φ_is_int_within
def Φ_is_tuple_of : PhiS :=
  sRet (eAnd (eUn (oIsT (isOnly "tuple")) (eV 0)) (eOp oEq (eUn oLen (eV 0)) (eV 1)))
def fn_is_tuple_of : FD := body 2 Φ_is_tuple_of
def Φ_is_point : PhiS :=
  sSeq (sIf (tNot (tT (eCall (fdn 2 (fn_is_tuple_of)) [] (aCons (eV 0) (aCons (eC (.int 3)) (aNil)))))) (sRet (eC (.bl false))) (sNil))
  (sRet (eAnd (eCall (fdn 1 (fn_is_count)) [] (aCons (eOp oIx (eV 0) (eC (.int 0))) (aNil))) (eAnd (eCall (fdn 1 (fn_is_count)) [] (aCons (eOp oIx (eV 0) (eC (.int 1))) (aNil))) (eCall (fdn 1 (fn_is_int)) [] (aCons (eOp oIx (eV 0) (eC (.int 2))) (aNil))))))
def fn_is_point : FD := body 1 Φ_is_point
def Φ_place_of : PhiS :=
  sRet (eTup (aCons (eOp oIx (eV 0) (eC (.int 0))) (aCons (eOp oIx (eV 0) (eC (.int 1))) (aNil))))
def fn_place_of : FD := body 1 Φ_place_of
def B_is_past_0 : PhiS :=
  sSeq (sIf (tNot (tT (eCall (fdn 1 (fn_is_point)) [] (aCons (eV 2) (aNil))))) (sRet (eC (.bl false))) (sNil))
  (sSeq (sIf (tAnd (tB (eOp (oIs fun b => !b) (eV 1) (eC .non))) (tB (eOp oLe (eCall (fdn 1 (fn_place_of)) [] (aCons (eV 2) (aNil))) (eV 1)))) (sRet (eC (.bl false))) (sNil))
  (sSet 1 (eCall (fdn 1 (fn_place_of)) [] (aCons (eV 2) (aNil)))))
theorem B_is_past_0_eq {Δ : DE} {ρ : List Sl} {μ : Mu} : B_is_past_0 Δ ⟨ρ, μ⟩ = (sSeq (sIf (tNot (tT (eCall (fdn 1 (fn_is_point)) [] (aCons (eV 2) (aNil))))) (sRet (eC (.bl false))) (sNil))
  (sSeq (sIf (tAnd (tB (eOp (oIs fun b => !b) (eV 1) (eC .non))) (tB (eOp oLe (eCall (fdn 1 (fn_place_of)) [] (aCons (eV 2) (aNil))) (eV 1)))) (sRet (eC (.bl false))) (sNil))
  (sSet 1 (eCall (fdn 1 (fn_place_of)) [] (aCons (eV 2) (aNil)))))) Δ ⟨ρ, μ⟩ := propext Iff.rfl
def Φ_is_past : PhiS :=
  sSeq (sIf (tNot (tT (eUn (oIsT (isOnly "tuple")) (eV 0)))) (sRet (eC (.bl false))) (sNil))
  (sSeq (sSet 1 (eC .non))
  (sSeq (sFor (iE (eV 0)) (gN 2) (B_is_past_0))
  (sRet (eC (.bl true)))))
def fn_is_past : FD := body 3 Φ_is_past
def Φ_is_past_up_to : PhiS :=
  sSeq (sIf (tNot (tT (eCall (fdn 1 (fn_is_past)) [] (aCons (eV 0) (aNil))))) (sRet (eC (.bl false))) (sNil))
  (sRet (eOr (eNot (tT (eV 0))) (eOp oLe (eOp oIx (eOp oIx (eV 0) (eUn oNeg (eC (.int 1)))) (eC (.int 0))) (eV 1))))
def fn_is_past_up_to : FD := body 2 Φ_is_past_up_to
def Φ_check_past_up_to : PhiS :=
  sIf (tNot (tT (eCall (fdn 2 (fn_is_past_up_to)) [] (aCons (eV 0) (aCons (eV 1) (aNil)))))) (sNever) (sNil)
def fn_check_past_up_to : FD := body 2 Φ_check_past_up_to
def Φ_count_of : PhiS :=
  sRet (eUn oLen (eV 0))
def fn_count_of : FD := body 1 Φ_count_of
def B_sum_of_0 : PhiS :=
  sSet 1 (eOp oAdd (eV 1) (eOp oIx (eV 2) (eC (.int 2))))
theorem B_sum_of_0_eq {Δ : DE} {ρ : List Sl} {μ : Mu} : B_sum_of_0 Δ ⟨ρ, μ⟩ = (sSet 1 (eOp oAdd (eV 1) (eOp oIx (eV 2) (eC (.int 2))))) Δ ⟨ρ, μ⟩ := propext Iff.rfl
def Φ_sum_of : PhiS :=
  sSeq (sSet 1 (eC (.int 0)))
  (sSeq (sFor (iE (eV 0)) (gN 2) (B_sum_of_0))
  (sRet (eV 1)))
def fn_sum_of : FD := body 3 Φ_sum_of
def B_squares_of_0 : PhiS :=
  sSet 1 (eOp oAdd (eV 1) (eOp oMul (eOp oIx (eV 2) (eC (.int 2))) (eOp oIx (eV 2) (eC (.int 2)))))
theorem B_squares_of_0_eq {Δ : DE} {ρ : List Sl} {μ : Mu} : B_squares_of_0 Δ ⟨ρ, μ⟩ = (sSet 1 (eOp oAdd (eV 1) (eOp oMul (eOp oIx (eV 2) (eC (.int 2))) (eOp oIx (eV 2) (eC (.int 2)))))) Δ ⟨ρ, μ⟩ := propext Iff.rfl
def Φ_squares_of : PhiS :=
  sSeq (sSet 1 (eC (.int 0)))
  (sSeq (sFor (iE (eV 0)) (gN 2) (B_squares_of_0))
  (sRet (eV 1)))
def fn_squares_of : FD := body 3 Φ_squares_of
def B_least_of_0 : PhiS :=
  sIf (tOr (tB (eOp (oIs fun b => b) (eV 1) (eC .non))) (tB (eOp oLt (eOp oIx (eV 2) (eC (.int 2))) (eV 1)))) (sSet 1 (eOp oIx (eV 2) (eC (.int 2)))) (sNil)
theorem B_least_of_0_eq {Δ : DE} {ρ : List Sl} {μ : Mu} : B_least_of_0 Δ ⟨ρ, μ⟩ = (sIf (tOr (tB (eOp (oIs fun b => b) (eV 1) (eC .non))) (tB (eOp oLt (eOp oIx (eV 2) (eC (.int 2))) (eV 1)))) (sSet 1 (eOp oIx (eV 2) (eC (.int 2)))) (sNil)) Δ ⟨ρ, μ⟩ := propext Iff.rfl
def Φ_least_of : PhiS :=
  sSeq (sSet 1 (eC .non))
  (sSeq (sFor (iE (eV 0)) (gN 2) (B_least_of_0))
  (sRet (eV 1)))
def fn_least_of : FD := body 3 Φ_least_of
def B_greatest_of_0 : PhiS :=
  sIf (tOr (tB (eOp (oIs fun b => b) (eV 1) (eC .non))) (tB (eOp oGt (eOp oIx (eV 2) (eC (.int 2))) (eV 1)))) (sSet 1 (eOp oIx (eV 2) (eC (.int 2)))) (sNil)
theorem B_greatest_of_0_eq {Δ : DE} {ρ : List Sl} {μ : Mu} : B_greatest_of_0 Δ ⟨ρ, μ⟩ = (sIf (tOr (tB (eOp (oIs fun b => b) (eV 1) (eC .non))) (tB (eOp oGt (eOp oIx (eV 2) (eC (.int 2))) (eV 1)))) (sSet 1 (eOp oIx (eV 2) (eC (.int 2)))) (sNil)) Δ ⟨ρ, μ⟩ := propext Iff.rfl
def Φ_greatest_of : PhiS :=
  sSeq (sSet 1 (eC .non))
  (sSeq (sFor (iE (eV 0)) (gN 2) (B_greatest_of_0))
  (sRet (eV 1)))
def fn_greatest_of : FD := body 3 Φ_greatest_of
def B_first_of_0 : PhiS :=
  sIf (tOr (tB (eOp (oIs fun b => b) (eV 1) (eC .non))) (tB (eOp oLt (eCall (fdn 1 (fn_place_of)) [] (aCons (eV 2) (aNil))) (eCall (fdn 1 (fn_place_of)) [] (aCons (eV 1) (aNil)))))) (sSet 1 (eV 2)) (sNil)
theorem B_first_of_0_eq {Δ : DE} {ρ : List Sl} {μ : Mu} : B_first_of_0 Δ ⟨ρ, μ⟩ = (sIf (tOr (tB (eOp (oIs fun b => b) (eV 1) (eC .non))) (tB (eOp oLt (eCall (fdn 1 (fn_place_of)) [] (aCons (eV 2) (aNil))) (eCall (fdn 1 (fn_place_of)) [] (aCons (eV 1) (aNil)))))) (sSet 1 (eV 2)) (sNil)) Δ ⟨ρ, μ⟩ := propext Iff.rfl
def Φ_first_of : PhiS :=
  sSeq (sSet 1 (eC .non))
  (sSeq (sFor (iE (eV 0)) (gN 2) (B_first_of_0))
  (sRet (eIf (tB (eOp (oIs fun b => b) (eV 1) (eC .non))) (eC .non) (eTup (aCons (eOp oIx (eV 1) (eC (.int 0))) (aCons (eOp oIx (eV 1) (eC (.int 2))) (aNil)))))))
def fn_first_of : FD := body 3 Φ_first_of
def B_last_of_0 : PhiS :=
  sIf (tOr (tB (eOp (oIs fun b => b) (eV 1) (eC .non))) (tB (eOp oGt (eCall (fdn 1 (fn_place_of)) [] (aCons (eV 2) (aNil))) (eCall (fdn 1 (fn_place_of)) [] (aCons (eV 1) (aNil)))))) (sSet 1 (eV 2)) (sNil)
theorem B_last_of_0_eq {Δ : DE} {ρ : List Sl} {μ : Mu} : B_last_of_0 Δ ⟨ρ, μ⟩ = (sIf (tOr (tB (eOp (oIs fun b => b) (eV 1) (eC .non))) (tB (eOp oGt (eCall (fdn 1 (fn_place_of)) [] (aCons (eV 2) (aNil))) (eCall (fdn 1 (fn_place_of)) [] (aCons (eV 1) (aNil)))))) (sSet 1 (eV 2)) (sNil)) Δ ⟨ρ, μ⟩ := propext Iff.rfl
def Φ_last_of : PhiS :=
  sSeq (sSet 1 (eC .non))
  (sSeq (sFor (iE (eV 0)) (gN 2) (B_last_of_0))
  (sRet (eIf (tB (eOp (oIs fun b => b) (eV 1) (eC .non))) (eC .non) (eTup (aCons (eOp oIx (eV 1) (eC (.int 0))) (aCons (eOp oIx (eV 1) (eC (.int 2))) (aNil)))))))
def fn_last_of : FD := body 3 Φ_last_of
def Φ_measured : PhiS :=
  sSeq (sIf (tB (eOp oEq (eV 1) (eC (.str "count")))) (sRet (eCall (fdn 1 (fn_count_of)) [] (aCons (eV 0) (aNil)))) (sNil))
  (sSeq (sIf (tB (eOp oEq (eV 1) (eC (.str "squares")))) (sRet (eCall (fdn 1 (fn_squares_of)) [] (aCons (eV 0) (aNil)))) (sNil))
  (sSeq (sIf (tB (eOp oEq (eV 1) (eC (.str "least")))) (sRet (eCall (fdn 1 (fn_least_of)) [] (aCons (eV 0) (aNil)))) (sNil))
  (sSeq (sIf (tB (eOp oEq (eV 1) (eC (.str "greatest")))) (sRet (eCall (fdn 1 (fn_greatest_of)) [] (aCons (eV 0) (aNil)))) (sNil))
  (sSeq (sIf (tB (eOp oEq (eV 1) (eC (.str "first")))) (sRet (eCall (fdn 1 (fn_first_of)) [] (aCons (eV 0) (aNil)))) (sNil))
  (sSeq (sIf (tB (eOp oEq (eV 1) (eC (.str "last")))) (sRet (eCall (fdn 1 (fn_last_of)) [] (aCons (eV 0) (aNil)))) (sNil))
  (sRet (eCall (fdn 1 (fn_sum_of)) [] (aCons (eV 0) (aNil)))))))))
def fn_measured : FD := body 2 Φ_measured
def Φ_is_moment : PhiS :=
  sRet (eCall (fdn 3 (fn_is_int_within)) [] (aCons (eV 0) (aCons (eC (.int 0)) (aCons (eC (.int 100000)) (aNil)))))
def fn_is_moment : FD := body 1 Φ_is_moment
def Φ_is_grain : PhiS :=
  sRet (eCall (fdn 3 (fn_is_int_within)) [] (aCons (eV 0) (aCons (eC (.int 1)) (aCons (eC (.int 1000)) (aNil)))))
def fn_is_grain : FD := body 1 Φ_is_grain
def Φ_is_age : PhiS :=
  sRet (eOr (eOp (oIs fun b => b) (eV 0) (eC .non)) (eCall (fdn 3 (fn_is_int_within)) [] (aCons (eV 0) (aCons (eC (.int 0)) (aCons (eC (.int 10000)) (aNil))))))
def fn_is_age : FD := body 1 Φ_is_age
def B_is_row_of_measures_0 : PhiS :=
  sSeq (sIf (tOr (tNot (tT (eCall (fdn 1 (fn_is_measure)) [] (aCons (eV 2) (aNil))))) (tB (eOp oLe (eV 2) (eV 1)))) (sRet (eC (.bl false))) (sNil))
  (sSet 1 (eV 2))
theorem B_is_row_of_measures_0_eq {Δ : DE} {ρ : List Sl} {μ : Mu} : B_is_row_of_measures_0 Δ ⟨ρ, μ⟩ = (sSeq (sIf (tOr (tNot (tT (eCall (fdn 1 (fn_is_measure)) [] (aCons (eV 2) (aNil))))) (tB (eOp oLe (eV 2) (eV 1)))) (sRet (eC (.bl false))) (sNil))
  (sSet 1 (eV 2))) Δ ⟨ρ, μ⟩ := propext Iff.rfl
def Φ_is_row_of_measures : PhiS :=
  sSeq (sIf (tOr (tNot (tT (eUn (oIsT (isOnly "tuple")) (eV 0)))) (tNot (tT (eV 0)))) (sRet (eC (.bl false))) (sNil))
  (sSeq (sSet 1 (eC (.str "")))
  (sSeq (sFor (iE (eV 0)) (gN 2) (B_is_row_of_measures_0))
  (sRet (eC (.bl true)))))
def fn_is_row_of_measures : FD := body 3 Φ_is_row_of_measures
def Φ_is_keep : PhiS :=
  sSeq (sIf (tNot (tT (eCall (fdn 2 (fn_is_tuple_of)) [] (aCons (eV 0) (aCons (eC (.int 3)) (aNil)))))) (sRet (eC (.bl false))) (sNil))
  (sRet (eAnd (eCall (fdn 1 (fn_is_grain)) [] (aCons (eOp oIx (eV 0) (eC (.int 0))) (aNil))) (eAnd (eCall (fdn 1 (fn_is_row_of_measures)) [] (aCons (eOp oIx (eV 0) (eC (.int 1))) (aNil))) (eCall (fdn 1 (fn_is_age)) [] (aCons (eOp oIx (eV 0) (eC (.int 2))) (aNil))))))
def fn_is_keep : FD := body 1 Φ_is_keep
def B_is_row_of_keeps_0 : PhiS :=
  sIf (tNot (tT (eCall (fdn 1 (fn_is_keep)) [] (aCons (eV 1) (aNil))))) (sRet (eC (.bl false))) (sNil)
theorem B_is_row_of_keeps_0_eq {Δ : DE} {ρ : List Sl} {μ : Mu} : B_is_row_of_keeps_0 Δ ⟨ρ, μ⟩ = (sIf (tNot (tT (eCall (fdn 1 (fn_is_keep)) [] (aCons (eV 1) (aNil))))) (sRet (eC (.bl false))) (sNil)) Δ ⟨ρ, μ⟩ := propext Iff.rfl
def Φ_is_row_of_keeps : PhiS :=
  sSeq (sIf (tOr (tNot (tT (eUn (oIsT (isOnly "tuple")) (eV 0)))) (tB (eOp oGt (eUn oLen (eV 0)) (eC (.int 6))))) (sRet (eC (.bl false))) (sNil))
  (sSeq (sFor (iE (eV 0)) (gN 1) (B_is_row_of_keeps_0))
  (sRet (eC (.bl true))))
def fn_is_row_of_keeps : FD := body 2 Φ_is_row_of_keeps
def Φ_is_rule : PhiS :=
  sSeq (sIf (tNot (tT (eCall (fdn 2 (fn_is_tuple_of)) [] (aCons (eV 0) (aCons (eC (.int 2)) (aNil)))))) (sRet (eC (.bl false))) (sNil))
  (sRet (eAnd (eCall (fdn 1 (fn_is_age)) [] (aCons (eOp oIx (eV 0) (eC (.int 0))) (aNil))) (eCall (fdn 1 (fn_is_row_of_keeps)) [] (aCons (eOp oIx (eV 0) (eC (.int 1))) (aNil)))))
def fn_is_rule : FD := body 1 Φ_is_rule
def Φ_check_rule : PhiS :=
  sIf (tNot (tT (eCall (fdn 1 (fn_is_rule)) [] (aCons (eV 0) (aNil))))) (sNever) (sNil)
def fn_check_rule : FD := body 1 Φ_check_rule
def Φ_check_moment : PhiS :=
  sIf (tNot (tT (eCall (fdn 1 (fn_is_moment)) [] (aCons (eV 0) (aNil))))) (sNever) (sNil)
def fn_check_moment : FD := body 1 Φ_check_moment
def Φ_first_time : PhiS :=
  sSeq (sSet 2 (eOp oIx (eV 0) (eC (.int 0))))
  (sSeq (sIf (tB (eOp (oIs fun b => b) (eV 2) (eC .non))) (sRet (eC (.int 0))) (sNil))
  (sRet (eCB (oII max2I) (aCons (eC (.int 0)) (aCons (eOp oSub (eOp oAdd (eV 1) (eC (.int 1))) (eV 2)) (aNil))))))
def fn_first_time : FD := body 3 Φ_first_time
def Φ_first_cell : PhiS :=
  sSeq (sAsg (eV 0) (gT 3 (gsCons (gN 2) (gsCons (gN 3) (gsCons (gN 4) (gsNil))))))
  (sSeq (sIf (tB (eOp (oIs fun b => b) (eV 4) (eC .non))) (sRet (eC (.int 0))) (sNil))
  (sRet (eCB (oII max2I) (aCons (eC (.int 0)) (aCons (eOp oDiv (eOp oSub (eV 1) (eV 4)) (eV 2)) (aNil))))))
def fn_first_cell : FD := body 5 Φ_first_cell
def Φ_last_cell : PhiS :=
  sRet (eOp oDiv (eV 1) (eOp oIx (eV 0) (eC (.int 0))))
def fn_last_cell : FD := body 2 Φ_last_cell
def Φ_cell_numbers : PhiS :=
  sRet (eLR (eCall (fdn 2 (fn_first_cell)) [] (aCons (eV 0) (aCons (eV 1) (aNil)))) (eOp oAdd (eCall (fdn 2 (fn_last_cell)) [] (aCons (eV 0) (aCons (eV 1) (aNil)))) (eC (.int 1))))
def fn_cell_numbers : FD := body 2 Φ_cell_numbers
def B_cells_0 : PhiS :=
  sApp 2 (eTup (aCons (eV 3) (aCons (eV 5) (aNil))))
theorem B_cells_0_eq {Δ : DE} {ρ : List Sl} {μ : Mu} : B_cells_0 Δ ⟨ρ, μ⟩ = (sApp 2 (eTup (aCons (eV 3) (aCons (eV 5) (aNil))))) Δ ⟨ρ, μ⟩ := propext Iff.rfl
def B_cells_1 : PhiS :=
  sFor (iE (eCall (fdn 2 (fn_cell_numbers)) [] (aCons (eV 4) (aCons (eV 1) (aNil))))) (gN 5) (B_cells_0)
theorem B_cells_1_eq {Δ : DE} {ρ : List Sl} {μ : Mu} : B_cells_1 Δ ⟨ρ, μ⟩ = (sFor (iE (eCall (fdn 2 (fn_cell_numbers)) [] (aCons (eV 4) (aCons (eV 1) (aNil))))) (gN 5) (B_cells_0)) Δ ⟨ρ, μ⟩ := propext Iff.rfl
def Φ_cells : PhiS :=
  sSeq (sDrop (eCall (fdn 1 (fn_check_rule)) [] (aCons (eV 0) (aNil))))
  (sSeq (sDrop (eCall (fdn 1 (fn_check_moment)) [] (aCons (eV 1) (aNil))))
  (sSeq (sSet 2 (eLst (aNil)))
  (sSeq (sFor (iEnT (eOp oIx (eV 0) (eC (.int 1)))) (gT 2 (gsCons (gN 3) (gsCons (gN 4) (gsNil)))) (B_cells_1))
  (sRet (eUn oTuple (eV 2))))))
def fn_cells : FD := body 6 Φ_cells
def E_points_left_0 : PhiE :=
  eV 4
theorem E_points_left_0_eq {R : Sl → S → Prop} {ρ : List Sl} {μ : Mu} : E_points_left_0 ⟨ρ, μ⟩ R = (eV 4 : PhiE) ⟨ρ, μ⟩ R := propext Iff.rfl
def T_points_left_1 : PhiT :=
  tB (eChain oLe oLe (eV 3) (eOp oIx (eV 4) (eC (.int 0))) (eV 1))
theorem T_points_left_1_eq {R : Bool → S → Prop} {ρ : List Sl} {μ : Mu} : T_points_left_1 ⟨ρ, μ⟩ R = (tB (eChain oLe oLe (eV 3) (eOp oIx (eV 4) (eC (.int 0))) (eV 1)) : PhiT) ⟨ρ, μ⟩ R := propext Iff.rfl
def Φ_points_left : PhiS :=
  sSeq (sSet 3 (eCall (fdn 2 (fn_first_time)) [] (aCons (eV 0) (aCons (eV 1) (aNil)))))
  (sRet (eUn oTuple (eLc (iE (eV 2)) [4] (gN 4) (T_points_left_1) (E_points_left_0))))
def fn_points_left : FD := body 5 Φ_points_left
def B_points_by_cell_0 : PhiS :=
  sSetd 2 (eOp oDiv (eOp oIx (eV 3) (eC (.int 0))) (eOp oIx (eV 0) (eC (.int 0)))) (eV 3)
theorem B_points_by_cell_0_eq {Δ : DE} {ρ : List Sl} {μ : Mu} : B_points_by_cell_0 Δ ⟨ρ, μ⟩ = (sSetd 2 (eOp oDiv (eOp oIx (eV 3) (eC (.int 0))) (eOp oIx (eV 0) (eC (.int 0)))) (eV 3)) Δ ⟨ρ, μ⟩ := propext Iff.rfl
def E_points_by_cell_1 : PhiE :=
  eV 4
theorem E_points_by_cell_1_eq {R : Sl → S → Prop} {ρ : List Sl} {μ : Mu} : E_points_by_cell_1 ⟨ρ, μ⟩ R = (eV 4 : PhiE) ⟨ρ, μ⟩ R := propext Iff.rfl
def E_points_by_cell_2 : PhiE :=
  eTupM (eOp oIx (eV 2) (eV 4))
theorem E_points_by_cell_2_eq {R : Sl → S → Prop} {ρ : List Sl} {μ : Mu} : E_points_by_cell_2 ⟨ρ, μ⟩ R = (eTupM (eOp oIx (eV 2) (eV 4)) : PhiE) ⟨ρ, μ⟩ R := propext Iff.rfl
def Φ_points_by_cell : PhiS :=
  sSeq (sSet 2 (eDicK))
  (sSeq (sFor (iE (eV 1)) (gN 3) (B_points_by_cell_0))
  (sRet (eDcK 2 [4] (gN 4) (fun s R => R true s) (E_points_by_cell_1) (E_points_by_cell_2))))
def fn_points_by_cell : FD := body 5 Φ_points_by_cell
def E_facts_of_cell_0 : PhiE :=
  eTup (aCons (eV 0) (aCons (eV 1) (aCons (eV 4) (aCons (eCall (fdn 2 (fn_measured)) [] (aCons (eV 3) (aCons (eV 4) (aNil)))) (aNil)))))
theorem E_facts_of_cell_0_eq {R : Sl → S → Prop} {ρ : List Sl} {μ : Mu} : E_facts_of_cell_0 ⟨ρ, μ⟩ R = (eTup (aCons (eV 0) (aCons (eV 1) (aCons (eV 4) (aCons (eCall (fdn 2 (fn_measured)) [] (aCons (eV 3) (aCons (eV 4) (aNil)))) (aNil))))) : PhiE) ⟨ρ, μ⟩ R := propext Iff.rfl
def Φ_facts_of_cell : PhiS :=
  sRet (eLc (iE (eOp oIx (eV 2) (eC (.int 1)))) [4] (gN 4) (fun s R => R true s) (E_facts_of_cell_0))
def fn_facts_of_cell : FD := body 5 Φ_facts_of_cell
def B_facts_of_keep_0 : PhiS :=
  sExt 5 (eCall (fdn 4 (fn_facts_of_cell)) [] (aCons (eV 0) (aCons (eV 6) (aCons (eV 1) (aCons (eGet (eV 4) (eV 6) (eTup (aNil))) (aNil))))))
theorem B_facts_of_keep_0_eq {Δ : DE} {ρ : List Sl} {μ : Mu} : B_facts_of_keep_0 Δ ⟨ρ, μ⟩ = (sExt 5 (eCall (fdn 4 (fn_facts_of_cell)) [] (aCons (eV 0) (aCons (eV 6) (aCons (eV 1) (aCons (eGet (eV 4) (eV 6) (eTup (aNil))) (aNil))))))) Δ ⟨ρ, μ⟩ := propext Iff.rfl
def Φ_facts_of_keep : PhiS :=
  sSeq (sSet 4 (eCall (fdn 2 (fn_points_by_cell)) [] (aCons (eV 1) (aCons (eV 3) (aNil)))))
  (sSeq (sSet 5 (eLst (aNil)))
  (sSeq (sFor (iE (eCall (fdn 2 (fn_cell_numbers)) [] (aCons (eV 1) (aCons (eV 2) (aNil))))) (gN 6) (B_facts_of_keep_0))
  (sRet (eV 5))))
def fn_facts_of_keep : FD := body 7 Φ_facts_of_keep
def B_left_0 : PhiS :=
  sExt 3 (eCall (fdn 4 (fn_facts_of_keep)) [] (aCons (eV 4) (aCons (eV 5) (aCons (eV 1) (aCons (eV 2) (aNil))))))
theorem B_left_0_eq {Δ : DE} {ρ : List Sl} {μ : Mu} : B_left_0 Δ ⟨ρ, μ⟩ = (sExt 3 (eCall (fdn 4 (fn_facts_of_keep)) [] (aCons (eV 4) (aCons (eV 5) (aCons (eV 1) (aCons (eV 2) (aNil))))))) Δ ⟨ρ, μ⟩ := propext Iff.rfl
def Φ_left : PhiS :=
  sSeq (sDrop (eCall (fdn 1 (fn_check_rule)) [] (aCons (eV 0) (aNil))))
  (sSeq (sDrop (eCall (fdn 1 (fn_check_moment)) [] (aCons (eV 1) (aNil))))
  (sSeq (sDrop (eCall (fdn 2 (fn_check_past_up_to)) [] (aCons (eV 2) (aCons (eV 1) (aNil)))))
  (sSeq (sSet 3 (eLst (aNil)))
  (sSeq (sFor (iEnT (eOp oIx (eV 0) (eC (.int 1)))) (gT 2 (gsCons (gN 4) (gsCons (gN 5) (gsNil)))) (B_left_0))
  (sRet (eTup (aCons (eCall (fdn 3 (fn_points_left)) [] (aCons (eV 0) (aCons (eV 1) (aCons (eV 2) (aNil))))) (aCons (eUn oTuple (eV 3)) (aNil)))))))))
def fn_left : FD := body 6 Φ_left
def B_p_law_deck_0 : PhiS :=
  sSet 2 (eOp oMod (eUn oInt (eOp oAdd (eOp oAdd (eOp oMul (eV 2) (eC (.int 69621))) (eOp oMod (eUn oInt (eV 3)) (eC (.int 2147483587)))) (eC (.int 17)))) (eC (.int 2147483647)))
theorem B_p_law_deck_0_eq {Δ : DE} {ρ : List Sl} {μ : Mu} : B_p_law_deck_0 Δ ⟨ρ, μ⟩ = (sSet 2 (eOp oMod (eUn oInt (eOp oAdd (eOp oAdd (eOp oMul (eV 2) (eC (.int 69621))) (eOp oMod (eUn oInt (eV 3)) (eC (.int 2147483587)))) (eC (.int 17)))) (eC (.int 2147483647)))) Δ ⟨ρ, μ⟩ := propext Iff.rfl
def E_p_law_deck_1 : PhiE :=
  eUn oInt (eV 3)
theorem E_p_law_deck_1_eq {R : Sl → S → Prop} {ρ : List Sl} {μ : Mu} : E_p_law_deck_1 ⟨ρ, μ⟩ R = (eUn oInt (eV 3) : PhiE) ⟨ρ, μ⟩ R := propext Iff.rfl
def Φ_p_law_deck : PhiS :=
  sSeq (sSet 2 (eV 1))
  (sSeq (sFor (iE (eSl (eV 0) (pNone) (pSome (eC (.int 63))))) (gN 3) (B_p_law_deck_0))
  (sRet (eDisp [(.inr "cells", eLc (iE (eSl (eV 0) (pNone) (pSome (eC (.int 63))))) [3] (gN 3) (fun s R => R true s) (E_p_law_deck_1)), (.inr "at", eC (.int 0)), (.inr "rest", eC (.int 1)), (.inr "seed", eV 2)])))
def fn0_p_law_deck : FD := body 4 Φ_p_law_deck
abbrev fn_p_law_deck : FD := fnDeckMk
abbrev fn_p_law_draw : FD := fnDeck
def Φ_p_law_pick : PhiS :=
  sRet (eOp oIx (eV 1) (eCall (fdn 2 (fn_p_law_draw)) [] (aCons (eV 0) (aCons (eUn oLen (eV 1)) (aNil)))))
def fn_p_law_pick : FD := body 2 Φ_p_law_pick
def Φ_p_law_names : PhiS :=
  sRet (eTup (aCons (eC (.str "count")) (aCons (eC (.str "first")) (aCons (eC (.str "greatest")) (aCons (eC (.str "last")) (aCons (eC (.str "least")) (aCons (eC (.str "squares")) (aCons (eC (.str "sum")) (aNil)))))))))
def fn_p_law_names : FD := body 0 Φ_p_law_names
def E_p_law_measures_0 : PhiE :=
  eOp oIx (eCall (fdn 0 (fn_p_law_names)) [] aNil) (eV 3)
theorem E_p_law_measures_0_eq {R : Sl → S → Prop} {ρ : List Sl} {μ : Mu} : E_p_law_measures_0 ⟨ρ, μ⟩ R = (eOp oIx (eCall (fdn 0 (fn_p_law_names)) [] aNil) (eV 3) : PhiE) ⟨ρ, μ⟩ R := propext Iff.rfl
def T_p_law_measures_1 : PhiT :=
  tB (eOp oEq (eOp oMod (eUn oInt (eOp oDiv (eV 2) (eOp oIx (eTup (aCons (eC (.int 1)) (aCons (eC (.int 2)) (aCons (eC (.int 4)) (aCons (eC (.int 8)) (aCons (eC (.int 16)) (aCons (eC (.int 32)) (aCons (eC (.int 64)) (aNil))))))))) (eV 3)))) (eC (.int 2))) (eC (.int 1)))
theorem T_p_law_measures_1_eq {R : Bool → S → Prop} {ρ : List Sl} {μ : Mu} : T_p_law_measures_1 ⟨ρ, μ⟩ R = (tB (eOp oEq (eOp oMod (eUn oInt (eOp oDiv (eV 2) (eOp oIx (eTup (aCons (eC (.int 1)) (aCons (eC (.int 2)) (aCons (eC (.int 4)) (aCons (eC (.int 8)) (aCons (eC (.int 16)) (aCons (eC (.int 32)) (aCons (eC (.int 64)) (aNil))))))))) (eV 3)))) (eC (.int 2))) (eC (.int 1))) : PhiT) ⟨ρ, μ⟩ R := propext Iff.rfl
def Φ_p_law_measures : PhiS :=
  sSeq (sSet 1 (eCall (fdn 2 (fn_p_law_draw)) [] (aCons (eV 0) (aCons (eC (.int 4)) (aNil)))))
  (sSeq (sIf (tB (eOp oLt (eV 1) (eC (.int 2)))) (sRet (eCall (fdn 0 (fn_p_law_names)) [] aNil)) (sNil))
  (sSeq (sIf (tB (eOp oEq (eV 1) (eC (.int 2)))) (sRet (eTup (aCons (eCall (fdn 2 (fn_p_law_pick)) [] (aCons (eV 0) (aCons (eCall (fdn 0 (fn_p_law_names)) [] aNil) (aNil)))) (aNil)))) (sNil))
  (sSeq (sSet 2 (eOp oAdd (eC (.int 1)) (eCall (fdn 2 (fn_p_law_draw)) [] (aCons (eV 0) (aCons (eC (.int 127)) (aNil))))))
  (sRet (eUn oTuple (eLc (iR1 (aCons (eC (.int 7)) (aNil))) [3] (gN 3) (T_p_law_measures_1) (E_p_law_measures_0)))))))
def fn_p_law_measures : FD := body 4 Φ_p_law_measures
def Φ_p_law_int : PhiS :=
  sRet (eAnd (eUn (oIsT isInt) (eV 0)) (eNot (tB (eUn (oIsT (isOnly "bool")) (eV 0)))))
def fn_p_law_int : FD := body 1 Φ_p_law_int
def E_p_law_same_0 (F_p_law_same : FD) : PhiE :=
  eCall (fdn 2 (F_p_law_same)) [] (aCons (eOp oIx (eV 0) (eV 2)) (aCons (eOp oIx (eV 1) (eV 2)) (aNil)))
theorem E_p_law_same_0_eq {F_p_law_same : FD} {R : Sl → S → Prop} {ρ : List Sl} {μ : Mu} : E_p_law_same_0 F_p_law_same ⟨ρ, μ⟩ R = (eCall (fdn 2 (F_p_law_same)) [] (aCons (eOp oIx (eV 0) (eV 2)) (aCons (eOp oIx (eV 1) (eV 2)) (aNil))) : PhiE) ⟨ρ, μ⟩ R := propext Iff.rfl
def Φ_p_law_same (F_p_law_same : FD) : PhiS :=
  sSeq (sIf (tT (eUn (oIsT (isOnly "tuple")) (eV 1))) (sSeq (sIf (tOr (tNot (tT (eUn (oIsT (isOnly "tuple")) (eV 0)))) (tB (eOp oNe (eUn oLen (eV 0)) (eUn oLen (eV 1))))) (sRet (eC (.bl false))) (sNil))
  (sRet (eUn oAll (eLc (iR1 (aCons (eUn oLen (eV 1)) (aNil))) [2] (gN 2) (fun s R => R true s) (E_p_law_same_0 F_p_law_same))))) (sNil))
  (sSeq (sIf (tB (eOp (oIs fun b => b) (eV 1) (eC .non))) (sRet (eOp (oIs fun b => b) (eV 0) (eC .non))) (sNil))
  (sSeq (sIf (tT (eUn (oIsT (isOnly "bool")) (eV 1))) (sRet (eAnd (eUn (oIsT (isOnly "bool")) (eV 0)) (eOp oEq (eV 0) (eV 1)))) (sNil))
  (sSeq (sIf (tT (eUn (oIsT isInt) (eV 1))) (sRet (eAnd (eCall (fdn 1 (fn_p_law_int)) [] (aCons (eV 0) (aNil))) (eOp oEq (eV 0) (eV 1)))) (sNil))
  (sRet (eAnd (eUn (oIsT (isOnly "str")) (eV 0)) (eOp oEq (eV 0) (eV 1)))))))
def fn_p_law_same : Nat → FD
  | 0 => fun _ _ _ => False
  | n + 1 => body 3 (Φ_p_law_same (fn_p_law_same n))
def I_p_law_rule_0 : PhiS :=
  sIf (tB (eOp oGt (eV 1) (eC (.int 40)))) (sSeq (sSet 4 (eCall (fdn 2 (fn_p_law_pick)) [] (aCons (eV 0) (aCons (eTup (aCons (eOp oAdd (eC (.int 1)) (eCall (fdn 2 (fn_p_law_draw)) [] (aCons (eV 0) (aCons (eC (.int 1000)) (aNil))))) (aCons (eOp oAdd (eC (.int 1)) (eCall (fdn 2 (fn_p_law_draw)) [] (aCons (eV 0) (aCons (eC (.int 1000)) (aNil))))) (aCons (eOp oAdd (eC (.int 1)) (eCall (fdn 2 (fn_p_law_draw)) [] (aCons (eV 0) (aCons (eC (.int 9)) (aNil))))) (aCons (eC (.int 1000)) (aNil)))))) (aNil)))))
  (sSeq (sSet 5 (eCB (oII min2I) (aCons (eC (.int 10000)) (aCons (eOp oAdd (eOp oMul (eV 4) (eCall (fdn 2 (fn_p_law_draw)) [] (aCons (eV 0) (aCons (eC (.int 12)) (aNil))))) (eCall (fdn 2 (fn_p_law_draw)) [] (aCons (eV 0) (aCons (eV 4) (aNil))))) (aNil)))))
  (sIf (tAnd (tB (eOp oEq (eCall (fdn 2 (fn_p_law_draw)) [] (aCons (eV 0) (aCons (eC (.int 2)) (aNil)))) (eC (.int 0)))) (tB (eOp oLe (eOp oDiv (eV 1) (eV 4)) (eC (.int 100))))) (sSet 5 (eC .non)) (sNil)))) (sNil)
theorem I_p_law_rule_0_eq {Δ : DE} {ρ : List Sl} {μ : Mu} : I_p_law_rule_0 Δ ⟨ρ, μ⟩ = (sIf (tB (eOp oGt (eV 1) (eC (.int 40)))) (sSeq (sSet 4 (eCall (fdn 2 (fn_p_law_pick)) [] (aCons (eV 0) (aCons (eTup (aCons (eOp oAdd (eC (.int 1)) (eCall (fdn 2 (fn_p_law_draw)) [] (aCons (eV 0) (aCons (eC (.int 1000)) (aNil))))) (aCons (eOp oAdd (eC (.int 1)) (eCall (fdn 2 (fn_p_law_draw)) [] (aCons (eV 0) (aCons (eC (.int 1000)) (aNil))))) (aCons (eOp oAdd (eC (.int 1)) (eCall (fdn 2 (fn_p_law_draw)) [] (aCons (eV 0) (aCons (eC (.int 9)) (aNil))))) (aCons (eC (.int 1000)) (aNil)))))) (aNil)))))
  (sSeq (sSet 5 (eCB (oII min2I) (aCons (eC (.int 10000)) (aCons (eOp oAdd (eOp oMul (eV 4) (eCall (fdn 2 (fn_p_law_draw)) [] (aCons (eV 0) (aCons (eC (.int 12)) (aNil))))) (eCall (fdn 2 (fn_p_law_draw)) [] (aCons (eV 0) (aCons (eV 4) (aNil))))) (aNil)))))
  (sIf (tAnd (tB (eOp oEq (eCall (fdn 2 (fn_p_law_draw)) [] (aCons (eV 0) (aCons (eC (.int 2)) (aNil)))) (eC (.int 0)))) (tB (eOp oLe (eOp oDiv (eV 1) (eV 4)) (eC (.int 100))))) (sSet 5 (eC .non)) (sNil)))) (sNil)) Δ ⟨ρ, μ⟩ := propext Iff.rfl
def B_p_law_rule_1 : PhiS :=
  sSeq (sSet 4 (eOp oAdd (eC (.int 1)) (eCall (fdn 2 (fn_p_law_draw)) [] (aCons (eV 0) (aCons (eC (.int 9)) (aNil))))))
  (sSeq (sSet 5 (eCall (fdn 2 (fn_p_law_pick)) [] (aCons (eV 0) (aCons (eTup (aCons (eC .non) (aCons (eCall (fdn 2 (fn_p_law_draw)) [] (aCons (eV 0) (aCons (eC (.int 31)) (aNil)))) (aCons (eCall (fdn 2 (fn_p_law_draw)) [] (aCons (eV 0) (aCons (eC (.int 31)) (aNil)))) (aCons (eCall (fdn 2 (fn_p_law_draw)) [] (aCons (eV 0) (aCons (eC (.int 10001)) (aNil)))) (aNil)))))) (aNil)))))
  (sSeq (I_p_law_rule_0)
  (sApp 2 (eTup (aCons (eV 4) (aCons (eCall (fdn 1 (fn_p_law_measures)) [] (aCons (eV 0) (aNil))) (aCons (eV 5) (aNil))))))))
theorem B_p_law_rule_1_eq {Δ : DE} {ρ : List Sl} {μ : Mu} : B_p_law_rule_1 Δ ⟨ρ, μ⟩ = (sSeq (sSet 4 (eOp oAdd (eC (.int 1)) (eCall (fdn 2 (fn_p_law_draw)) [] (aCons (eV 0) (aCons (eC (.int 9)) (aNil))))))
  (sSeq (sSet 5 (eCall (fdn 2 (fn_p_law_pick)) [] (aCons (eV 0) (aCons (eTup (aCons (eC .non) (aCons (eCall (fdn 2 (fn_p_law_draw)) [] (aCons (eV 0) (aCons (eC (.int 31)) (aNil)))) (aCons (eCall (fdn 2 (fn_p_law_draw)) [] (aCons (eV 0) (aCons (eC (.int 31)) (aNil)))) (aCons (eCall (fdn 2 (fn_p_law_draw)) [] (aCons (eV 0) (aCons (eC (.int 10001)) (aNil)))) (aNil)))))) (aNil)))))
  (sSeq (I_p_law_rule_0)
  (sApp 2 (eTup (aCons (eV 4) (aCons (eCall (fdn 1 (fn_p_law_measures)) [] (aCons (eV 0) (aNil))) (aCons (eV 5) (aNil))))))))) Δ ⟨ρ, μ⟩ := propext Iff.rfl
def Φ_p_law_rule : PhiS :=
  sSeq (sSet 2 (eLst (aNil)))
  (sSeq (sFor (iR1 (aCons (eCall (fdn 2 (fn_p_law_draw)) [] (aCons (eV 0) (aCons (eC (.int 7)) (aNil)))) (aNil))) (gN 3) (B_p_law_rule_1))
  (sSeq (sSet 6 (eCall (fdn 2 (fn_p_law_pick)) [] (aCons (eV 0) (aCons (eTup (aCons (eC (.int 0)) (aCons (eCall (fdn 2 (fn_p_law_draw)) [] (aCons (eV 0) (aCons (eC (.int 10)) (aNil)))) (aCons (eCall (fdn 2 (fn_p_law_draw)) [] (aCons (eV 0) (aCons (eC (.int 10)) (aNil)))) (aCons (eCall (fdn 2 (fn_p_law_draw)) [] (aCons (eV 0) (aCons (eC (.int 10001)) (aNil)))) (aCons (eC .non) (aNil))))))) (aNil)))))
  (sRet (eTup (aCons (eV 6) (aCons (eUn oTuple (eV 2)) (aNil)))))))
def fn_p_law_rule : FD := body 7 Φ_p_law_rule
def Φ_p_law_first : PhiS :=
  sSeq (sIf (tOr (tB (eOp (oIs fun b => b) (eOp oIx (eV 0) (eC (.int 0))) (eC .non))) (tB (eOp oGt (eOp oIx (eV 0) (eC (.int 0))) (eV 1)))) (sRet (eC (.int 0))) (sNil))
  (sRet (eOp oAdd (eOp oSub (eV 1) (eOp oIx (eV 0) (eC (.int 0)))) (eC (.int 1))))
def fn_p_law_first : FD := body 2 Φ_p_law_first
def I_p_law_cells_0 : PhiS :=
  sIf (tAnd (tB (eOp (oIs fun b => !b) (eV 5) (eC .non))) (tB (eOp oLe (eV 5) (eV 1)))) (sSet 6 (eOp oDiv (eOp oSub (eV 1) (eV 5)) (eV 4))) (sNil)
theorem I_p_law_cells_0_eq {Δ : DE} {ρ : List Sl} {μ : Mu} : I_p_law_cells_0 Δ ⟨ρ, μ⟩ = (sIf (tAnd (tB (eOp (oIs fun b => !b) (eV 5) (eC .non))) (tB (eOp oLe (eV 5) (eV 1)))) (sSet 6 (eOp oDiv (eOp oSub (eV 1) (eV 5)) (eV 4))) (sNil)) Δ ⟨ρ, μ⟩ := propext Iff.rfl
def E_p_law_cells_1 : PhiE :=
  eTup (aCons (eV 3) (aCons (eV 7) (aNil)))
theorem E_p_law_cells_1_eq {R : Sl → S → Prop} {ρ : List Sl} {μ : Mu} : E_p_law_cells_1 ⟨ρ, μ⟩ R = (eTup (aCons (eV 3) (aCons (eV 7) (aNil))) : PhiE) ⟨ρ, μ⟩ R := propext Iff.rfl
def B_p_law_cells_2 : PhiS :=
  sSeq (sSet 4 (eOp oIx (eOp oIx (eOp oIx (eV 0) (eC (.int 1))) (eV 3)) (eC (.int 0))))
  (sSeq (sSet 5 (eOp oIx (eOp oIx (eOp oIx (eV 0) (eC (.int 1))) (eV 3)) (eC (.int 2))))
  (sSeq (sSet 6 (eC (.int 0)))
  (sSeq (I_p_law_cells_0)
  (sSet 2 (eOp oAdd (eV 2) (eLc (iR2 (aCons (eV 6) (aCons (eOp oAdd (eOp oDiv (eV 1) (eV 4)) (eC (.int 1))) (aNil)))) [7] (gN 7) (fun s R => R true s) (E_p_law_cells_1)))))))
theorem B_p_law_cells_2_eq {Δ : DE} {ρ : List Sl} {μ : Mu} : B_p_law_cells_2 Δ ⟨ρ, μ⟩ = (sSeq (sSet 4 (eOp oIx (eOp oIx (eOp oIx (eV 0) (eC (.int 1))) (eV 3)) (eC (.int 0))))
  (sSeq (sSet 5 (eOp oIx (eOp oIx (eOp oIx (eV 0) (eC (.int 1))) (eV 3)) (eC (.int 2))))
  (sSeq (sSet 6 (eC (.int 0)))
  (sSeq (I_p_law_cells_0)
  (sSet 2 (eOp oAdd (eV 2) (eLc (iR2 (aCons (eV 6) (aCons (eOp oAdd (eOp oDiv (eV 1) (eV 4)) (eC (.int 1))) (aNil)))) [7] (gN 7) (fun s R => R true s) (E_p_law_cells_1)))))))) Δ ⟨ρ, μ⟩ := propext Iff.rfl
def Φ_p_law_cells : PhiS :=
  sSeq (sSet 2 (eLst (aNil)))
  (sSeq (sFor (iR1 (aCons (eUn oLen (eOp oIx (eV 0) (eC (.int 1)))) (aNil))) (gN 3) (B_p_law_cells_2))
  (sRet (eUn oTuple (eV 2))))
def fn_p_law_cells : FD := body 8 Φ_p_law_cells
def E_p_law_measured_0 : PhiE :=
  eOp oIx (eV 4) (eC (.int 2))
theorem E_p_law_measured_0_eq {R : Sl → S → Prop} {ρ : List Sl} {μ : Mu} : E_p_law_measured_0 ⟨ρ, μ⟩ R = (eOp oIx (eV 4) (eC (.int 2)) : PhiE) ⟨ρ, μ⟩ R := propext Iff.rfl
def E_p_law_measured_1 : PhiE :=
  eOp oMul (eV 5) (eV 5)
theorem E_p_law_measured_1_eq {R : Sl → S → Prop} {ρ : List Sl} {μ : Mu} : E_p_law_measured_1 ⟨ρ, μ⟩ R = (eOp oMul (eV 5) (eV 5) : PhiE) ⟨ρ, μ⟩ R := propext Iff.rfl
def Φ_p_law_measured : PhiS :=
  sSeq (sSet 2 (eLc (iE (eV 0)) [4] (gN 4) (fun s R => R true s) (E_p_law_measured_0)))
  (sSeq (sIf (tB (eOp oEq (eV 1) (eC (.str "count")))) (sRet (eUn oLen (eV 2))) (sNil))
  (sSeq (sIf (tB (eOp oEq (eV 1) (eC (.str "sum")))) (sRet (eUn oSum (eV 2))) (sNil))
  (sSeq (sIf (tB (eOp oEq (eV 1) (eC (.str "squares")))) (sRet (eUn oSum (eLc (iE (eV 2)) [5] (gN 5) (fun s R => R true s) (E_p_law_measured_1)))) (sNil))
  (sSeq (sIf (tNot (tT (eV 2))) (sRet (eC .non)) (sNil))
  (sSeq (sIf (tB (eOp oEq (eV 1) (eC (.str "least")))) (sRet (eUn oMinL (eV 2))) (sNil))
  (sSeq (sIf (tB (eOp oEq (eV 1) (eC (.str "greatest")))) (sRet (eUn oMaxL (eV 2))) (sNil))
  (sSeq (sSet 3 (eIf (tB (eOp oEq (eV 1) (eC (.str "first")))) (eOp oIx (eV 0) (eC (.int 0))) (eOp oIx (eV 0) (eUn oNeg (eC (.int 1))))))
  (sRet (eTup (aCons (eOp oIx (eV 3) (eC (.int 0))) (aCons (eOp oIx (eV 3) (eC (.int 2))) (aNil))))))))))))
def fn_p_law_measured : FD := body 6 Φ_p_law_measured
def E_p_law_facts_0 : PhiE :=
  eV 8
theorem E_p_law_facts_0_eq {R : Sl → S → Prop} {ρ : List Sl} {μ : Mu} : E_p_law_facts_0 ⟨ρ, μ⟩ R = (eV 8 : PhiE) ⟨ρ, μ⟩ R := propext Iff.rfl
def T_p_law_facts_1 : PhiT :=
  tB (eOp oEq (eOp oDiv (eOp oIx (eV 8) (eC (.int 0))) (eOp oIx (eV 5) (eC (.int 0)))) (eOp oIx (eV 4) (eC (.int 1))))
theorem T_p_law_facts_1_eq {R : Bool → S → Prop} {ρ : List Sl} {μ : Mu} : T_p_law_facts_1 ⟨ρ, μ⟩ R = (tB (eOp oEq (eOp oDiv (eOp oIx (eV 8) (eC (.int 0))) (eOp oIx (eV 5) (eC (.int 0)))) (eOp oIx (eV 4) (eC (.int 1)))) : PhiT) ⟨ρ, μ⟩ R := propext Iff.rfl
def B_p_law_facts_2 : PhiS :=
  sApp 3 (eOp oAdd (eV 4) (eTup (aCons (eV 7) (aCons (eCall (fdn 2 (fn_p_law_measured)) [] (aCons (eV 6) (aCons (eV 7) (aNil)))) (aNil)))))
theorem B_p_law_facts_2_eq {Δ : DE} {ρ : List Sl} {μ : Mu} : B_p_law_facts_2 Δ ⟨ρ, μ⟩ = (sApp 3 (eOp oAdd (eV 4) (eTup (aCons (eV 7) (aCons (eCall (fdn 2 (fn_p_law_measured)) [] (aCons (eV 6) (aCons (eV 7) (aNil)))) (aNil)))))) Δ ⟨ρ, μ⟩ := propext Iff.rfl
def B_p_law_facts_3 : PhiS :=
  sSeq (sSet 5 (eOp oIx (eOp oIx (eV 0) (eC (.int 1))) (eOp oIx (eV 4) (eC (.int 0)))))
  (sSeq (sSet 6 (eLc (iE (eV 2)) [8] (gN 8) (T_p_law_facts_1) (E_p_law_facts_0)))
  (sFor (iE (eOp oIx (eV 5) (eC (.int 1)))) (gN 7) (B_p_law_facts_2)))
theorem B_p_law_facts_3_eq {Δ : DE} {ρ : List Sl} {μ : Mu} : B_p_law_facts_3 Δ ⟨ρ, μ⟩ = (sSeq (sSet 5 (eOp oIx (eOp oIx (eV 0) (eC (.int 1))) (eOp oIx (eV 4) (eC (.int 0)))))
  (sSeq (sSet 6 (eLc (iE (eV 2)) [8] (gN 8) (T_p_law_facts_1) (E_p_law_facts_0)))
  (sFor (iE (eOp oIx (eV 5) (eC (.int 1)))) (gN 7) (B_p_law_facts_2)))) Δ ⟨ρ, μ⟩ := propext Iff.rfl
def Φ_p_law_facts : PhiS :=
  sSeq (sSet 3 (eLst (aNil)))
  (sSeq (sFor (iE (eCall (fdn 2 (fn_p_law_cells)) [] (aCons (eV 0) (aCons (eV 1) (aNil))))) (gN 4) (B_p_law_facts_3))
  (sRet (eUn oTuple (eV 3))))
def fn_p_law_facts : FD := body 9 Φ_p_law_facts
def I_p_law_time_0 : PhiS :=
  sIf (tB (eOp oEq (eV 3) (eC (.int 0)))) (sSet 4 (eOp oSub (eOp oAdd (eCall (fdn 2 (fn_p_law_first)) [] (aCons (eV 1) (aCons (eV 2) (aNil)))) (eCall (fdn 2 (fn_p_law_draw)) [] (aCons (eV 0) (aCons (eC (.int 3)) (aNil))))) (eC (.int 1)))) (sNil)
theorem I_p_law_time_0_eq {Δ : DE} {ρ : List Sl} {μ : Mu} : I_p_law_time_0 Δ ⟨ρ, μ⟩ = (sIf (tB (eOp oEq (eV 3) (eC (.int 0)))) (sSet 4 (eOp oSub (eOp oAdd (eCall (fdn 2 (fn_p_law_first)) [] (aCons (eV 1) (aCons (eV 2) (aNil)))) (eCall (fdn 2 (fn_p_law_draw)) [] (aCons (eV 0) (aCons (eC (.int 3)) (aNil))))) (eC (.int 1)))) (sNil)) Δ ⟨ρ, μ⟩ := propext Iff.rfl
def I_p_law_time_1 : PhiS :=
  sIf (tAnd (tB (eOp oGt (eV 3) (eC (.int 1)))) (tT (eV 5))) (sSeq (sSet 6 (eCall (fdn 2 (fn_p_law_pick)) [] (aCons (eV 0) (aCons (eV 5) (aNil)))))
  (sSet 4 (eOp oSub (eOp oAdd (eOp oMul (eOp oIx (eOp oIx (eOp oIx (eV 1) (eC (.int 1))) (eOp oIx (eV 6) (eC (.int 0)))) (eC (.int 0))) (eOp oAdd (eOp oIx (eV 6) (eC (.int 1))) (eCall (fdn 2 (fn_p_law_draw)) [] (aCons (eV 0) (aCons (eC (.int 2)) (aNil)))))) (eCall (fdn 2 (fn_p_law_draw)) [] (aCons (eV 0) (aCons (eC (.int 3)) (aNil))))) (eC (.int 2))))) (sNil)
theorem I_p_law_time_1_eq {Δ : DE} {ρ : List Sl} {μ : Mu} : I_p_law_time_1 Δ ⟨ρ, μ⟩ = (sIf (tAnd (tB (eOp oGt (eV 3) (eC (.int 1)))) (tT (eV 5))) (sSeq (sSet 6 (eCall (fdn 2 (fn_p_law_pick)) [] (aCons (eV 0) (aCons (eV 5) (aNil)))))
  (sSet 4 (eOp oSub (eOp oAdd (eOp oMul (eOp oIx (eOp oIx (eOp oIx (eV 1) (eC (.int 1))) (eOp oIx (eV 6) (eC (.int 0)))) (eC (.int 0))) (eOp oAdd (eOp oIx (eV 6) (eC (.int 1))) (eCall (fdn 2 (fn_p_law_draw)) [] (aCons (eV 0) (aCons (eC (.int 2)) (aNil)))))) (eCall (fdn 2 (fn_p_law_draw)) [] (aCons (eV 0) (aCons (eC (.int 3)) (aNil))))) (eC (.int 2))))) (sNil)) Δ ⟨ρ, μ⟩ := propext Iff.rfl
def Φ_p_law_time : PhiS :=
  sSeq (sSet 3 (eCall (fdn 2 (fn_p_law_draw)) [] (aCons (eV 0) (aCons (eC (.int 4)) (aNil)))))
  (sSeq (sSet 4 (eCall (fdn 2 (fn_p_law_draw)) [] (aCons (eV 0) (aCons (eOp oAdd (eV 2) (eC (.int 1))) (aNil)))))
  (sSeq (I_p_law_time_0)
  (sSeq (sSet 5 (eCall (fdn 2 (fn_p_law_cells)) [] (aCons (eV 1) (aCons (eV 2) (aNil)))))
  (sSeq (I_p_law_time_1)
  (sRet (eCB (oII max2I) (aCons (eC (.int 0)) (aCons (eCB (oII min2I) (aCons (eV 2) (aCons (eV 4) (aNil)))) (aNil)))))))))
def fn_p_law_time : FD := body 7 Φ_p_law_time
def I_p_law_past_0 : PhiS :=
  sIf (tB (eOp oGt (eCall (fdn 2 (fn_p_law_draw)) [] (aCons (eV 0) (aCons (eC (.int 3)) (aNil)))) (eC (.int 0)))) (sSet 4 (eCall (fdn 3 (fn_p_law_time)) [] (aCons (eV 0) (aCons (eV 1) (aCons (eV 2) (aNil)))))) (sNil)
theorem I_p_law_past_0_eq {Δ : DE} {ρ : List Sl} {μ : Mu} : I_p_law_past_0 Δ ⟨ρ, μ⟩ = (sIf (tB (eOp oGt (eCall (fdn 2 (fn_p_law_draw)) [] (aCons (eV 0) (aCons (eC (.int 3)) (aNil)))) (eC (.int 0)))) (sSet 4 (eCall (fdn 3 (fn_p_law_time)) [] (aCons (eV 0) (aCons (eV 1) (aCons (eV 2) (aNil)))))) (sNil)) Δ ⟨ρ, μ⟩ := propext Iff.rfl
def I_p_law_past_1 : PhiS :=
  sIf (tB (eOp oEq (eCall (fdn 2 (fn_p_law_draw)) [] (aCons (eV 0) (aCons (eC (.int 12)) (aNil)))) (eC (.int 0)))) (sSet 6 (eOp oAdd (eOp oPow (eC (.int 10)) (eC (.int 30))) (eCall (fdn 2 (fn_p_law_draw)) [] (aCons (eV 0) (aCons (eC (.int 5)) (aNil)))))) (sNil)
theorem I_p_law_past_1_eq {Δ : DE} {ρ : List Sl} {μ : Mu} : I_p_law_past_1 Δ ⟨ρ, μ⟩ = (sIf (tB (eOp oEq (eCall (fdn 2 (fn_p_law_draw)) [] (aCons (eV 0) (aCons (eC (.int 12)) (aNil)))) (eC (.int 0)))) (sSet 6 (eOp oAdd (eOp oPow (eC (.int 10)) (eC (.int 30))) (eCall (fdn 2 (fn_p_law_draw)) [] (aCons (eV 0) (aCons (eC (.int 5)) (aNil)))))) (sNil)) Δ ⟨ρ, μ⟩ := propext Iff.rfl
def I_p_law_past_2 : PhiS :=
  sIf (tB (eOp oEq (eCall (fdn 2 (fn_p_law_draw)) [] (aCons (eV 0) (aCons (eC (.int 8)) (aNil)))) (eC (.int 0)))) (sSet 7 (eOp oAdd (eOp oMul (eOp oSub (eOp oMul (eC (.int 2)) (eCall (fdn 2 (fn_p_law_draw)) [] (aCons (eV 0) (aCons (eC (.int 2)) (aNil))))) (eC (.int 1))) (eOp oPow (eC (.int 10)) (eC (.int 25)))) (eCall (fdn 2 (fn_p_law_draw)) [] (aCons (eV 0) (aCons (eC (.int 9)) (aNil)))))) (sNil)
theorem I_p_law_past_2_eq {Δ : DE} {ρ : List Sl} {μ : Mu} : I_p_law_past_2 Δ ⟨ρ, μ⟩ = (sIf (tB (eOp oEq (eCall (fdn 2 (fn_p_law_draw)) [] (aCons (eV 0) (aCons (eC (.int 8)) (aNil)))) (eC (.int 0)))) (sSet 7 (eOp oAdd (eOp oMul (eOp oSub (eOp oMul (eC (.int 2)) (eCall (fdn 2 (fn_p_law_draw)) [] (aCons (eV 0) (aCons (eC (.int 2)) (aNil))))) (eC (.int 1))) (eOp oPow (eC (.int 10)) (eC (.int 25)))) (eCall (fdn 2 (fn_p_law_draw)) [] (aCons (eV 0) (aCons (eC (.int 9)) (aNil)))))) (sNil)) Δ ⟨ρ, μ⟩ := propext Iff.rfl
def B_p_law_past_3 : PhiS :=
  sSeq (I_p_law_past_0)
  (sSeq (sSet 6 (eCall (fdn 2 (fn_p_law_draw)) [] (aCons (eV 0) (aCons (eC (.int 4)) (aNil)))))
  (sSeq (I_p_law_past_1)
  (sSeq (sSet 7 (eOp oSub (eCall (fdn 2 (fn_p_law_draw)) [] (aCons (eV 0) (aCons (eC (.int 9)) (aNil)))) (eC (.int 4))))
  (sSeq (I_p_law_past_2)
  (sTPut 3 (eTup (aCons (eV 4) (aCons (eV 6) (aNil)))) (eV 7))))))
theorem B_p_law_past_3_eq {Δ : DE} {ρ : List Sl} {μ : Mu} : B_p_law_past_3 Δ ⟨ρ, μ⟩ = (sSeq (I_p_law_past_0)
  (sSeq (sSet 6 (eCall (fdn 2 (fn_p_law_draw)) [] (aCons (eV 0) (aCons (eC (.int 4)) (aNil)))))
  (sSeq (I_p_law_past_1)
  (sSeq (sSet 7 (eOp oSub (eCall (fdn 2 (fn_p_law_draw)) [] (aCons (eV 0) (aCons (eC (.int 9)) (aNil)))) (eC (.int 4))))
  (sSeq (I_p_law_past_2)
  (sTPut 3 (eTup (aCons (eV 4) (aCons (eV 6) (aNil)))) (eV 7))))))) Δ ⟨ρ, μ⟩ := propext Iff.rfl
def E_p_law_past_4 : PhiE :=
  eOp oAdd (eV 8) (eTup (aCons (eOp oIx (eV 3) (eV 8)) (aNil)))
theorem E_p_law_past_4_eq {R : Sl → S → Prop} {ρ : List Sl} {μ : Mu} : E_p_law_past_4 ⟨ρ, μ⟩ R = (eOp oAdd (eV 8) (eTup (aCons (eOp oIx (eV 3) (eV 8)) (aNil))) : PhiE) ⟨ρ, μ⟩ R := propext Iff.rfl
def Φ_p_law_past : PhiS :=
  sSeq (sSet 3 (eDicT))
  (sSeq (sSet 4 (eV 2))
  (sSeq (sFor (iR1 (aCons (eCall (fdn 2 (fn_p_law_draw)) [] (aCons (eV 0) (aCons (eC (.int 27)) (aNil)))) (aNil))) (gN 5) (B_p_law_past_3))
  (sRet (eUn oTuple (eLc (iE (eUn oSorted (eUn oListKT (eV 3)))) [8] (gN 8) (fun s R => R true s) (E_p_law_past_4))))))
def fn_p_law_past : FD := body 9 Φ_p_law_past
def I_law_0 : PhiS :=
  sIf (tB (eOp oEq (eCall (fdn 2 (fn_p_law_draw)) [] (aCons (eV 1) (aCons (eC (.int 3)) (aNil)))) (eC (.int 0)))) (sSet 2 (eCall (fdn 2 (fn_p_law_pick)) [] (aCons (eV 1) (aCons (eTup (aCons (eC (.int 100000)) (aCons (eCall (fdn 2 (fn_p_law_draw)) [] (aCons (eV 1) (aCons (eC (.int 100001)) (aNil)))) (aCons (eCall (fdn 2 (fn_p_law_draw)) [] (aCons (eV 1) (aCons (eC (.int 100001)) (aNil)))) (aCons (eCall (fdn 2 (fn_p_law_draw)) [] (aCons (eV 1) (aCons (eC (.int 2000)) (aNil)))) (aNil)))))) (aNil))))) (sNil)
theorem I_law_0_eq {Δ : DE} {ρ : List Sl} {μ : Mu} : I_law_0 Δ ⟨ρ, μ⟩ = (sIf (tB (eOp oEq (eCall (fdn 2 (fn_p_law_draw)) [] (aCons (eV 1) (aCons (eC (.int 3)) (aNil)))) (eC (.int 0)))) (sSet 2 (eCall (fdn 2 (fn_p_law_pick)) [] (aCons (eV 1) (aCons (eTup (aCons (eC (.int 100000)) (aCons (eCall (fdn 2 (fn_p_law_draw)) [] (aCons (eV 1) (aCons (eC (.int 100001)) (aNil)))) (aCons (eCall (fdn 2 (fn_p_law_draw)) [] (aCons (eV 1) (aCons (eC (.int 100001)) (aNil)))) (aCons (eCall (fdn 2 (fn_p_law_draw)) [] (aCons (eV 1) (aCons (eC (.int 2000)) (aNil)))) (aNil)))))) (aNil))))) (sNil)) Δ ⟨ρ, μ⟩ := propext Iff.rfl
def E_law_1 : PhiE :=
  eV 8
theorem E_law_1_eq {R : Sl → S → Prop} {ρ : List Sl} {μ : Mu} : E_law_1 ⟨ρ, μ⟩ R = (eV 8 : PhiE) ⟨ρ, μ⟩ R := propext Iff.rfl
def T_law_2 : PhiT :=
  tB (eOp oGe (eOp oIx (eV 8) (eC (.int 0))) (eV 5))
theorem T_law_2_eq {R : Bool → S → Prop} {ρ : List Sl} {μ : Mu} : T_law_2 ⟨ρ, μ⟩ R = (tB (eOp oGe (eOp oIx (eV 8) (eC (.int 0))) (eV 5)) : PhiT) ⟨ρ, μ⟩ R := propext Iff.rfl
def B_law_3 : PhiS :=
  sSeq (sSet 7 (eUn oTuple (eLc (iE (eV 6)) [8] (gN 8) (T_law_2) (E_law_1))))
  (sIf (tNot (tT (eCall (fdn 2 (fn_p_law_same 6)) [] (aCons (eCall (fdn 3 (fn_left)) [] (aCons (eV 3) (aCons (eV 2) (aCons (eV 6) (aNil))))) (aCons (eTup (aCons (eV 7) (aCons (eCall (fdn 3 (fn_p_law_facts)) [] (aCons (eV 3) (aCons (eV 2) (aCons (eV 6) (aNil))))) (aNil)))) (aNil)))))) (sRet (eC (.bl false))) (sNil))
theorem B_law_3_eq {Δ : DE} {ρ : List Sl} {μ : Mu} : B_law_3 Δ ⟨ρ, μ⟩ = (sSeq (sSet 7 (eUn oTuple (eLc (iE (eV 6)) [8] (gN 8) (T_law_2) (E_law_1))))
  (sIf (tNot (tT (eCall (fdn 2 (fn_p_law_same 6)) [] (aCons (eCall (fdn 3 (fn_left)) [] (aCons (eV 3) (aCons (eV 2) (aCons (eV 6) (aNil))))) (aCons (eTup (aCons (eV 7) (aCons (eCall (fdn 3 (fn_p_law_facts)) [] (aCons (eV 3) (aCons (eV 2) (aCons (eV 6) (aNil))))) (aNil)))) (aNil)))))) (sRet (eC (.bl false))) (sNil))) Δ ⟨ρ, μ⟩ := propext Iff.rfl
def Φ_law : PhiS :=
  sSeq (sSet 1 (eCall (fdn 2 (fn_p_law_deck)) [] (aCons (eV 0) (aCons (eC (.int 20)) (aNil)))))
  (sSeq (sSet 2 (eCall (fdn 2 (fn_p_law_draw)) [] (aCons (eV 1) (aCons (eC (.int 41)) (aNil)))))
  (sSeq (I_law_0)
  (sSeq (sSet 3 (eCall (fdn 2 (fn_p_law_rule)) [] (aCons (eV 1) (aCons (eV 2) (aNil)))))
  (sSeq (sSet 4 (eCall (fdn 3 (fn_p_law_past)) [] (aCons (eV 1) (aCons (eV 3) (aCons (eV 2) (aNil))))))
  (sSeq (sIf (tNot (tT (eCall (fdn 2 (fn_p_law_same 6)) [] (aCons (eCall (fdn 2 (fn_cells)) [] (aCons (eV 3) (aCons (eV 2) (aNil)))) (aCons (eCall (fdn 2 (fn_p_law_cells)) [] (aCons (eV 3) (aCons (eV 2) (aNil)))) (aNil)))))) (sRet (eC (.bl false))) (sNil))
  (sSeq (sSet 5 (eCall (fdn 2 (fn_p_law_first)) [] (aCons (eV 3) (aCons (eV 2) (aNil)))))
  (sSeq (sFor (iE (eTup (aCons (eV 4) (aCons (eSl (eV 4) (pNone) (pSome (eUn oNeg (eC (.int 1))))) (aCons (eTup (aNil)) (aNil)))))) (gN 6) (B_law_3))
  (sRet (eCall (fdn 2 (fn_p_law_same 6)) [] (aCons (eCall (fdn 2 (fn_cells)) [] (aCons (eV 3) (aCons (eV 2) (aNil)))) (aCons (eCall (fdn 2 (fn_p_law_cells)) [] (aCons (eV 3) (aCons (eV 2) (aNil)))) (aNil))))))))))))
def fn_law : FD := body 9 Φ_law
end K20
local macro_rules
  | `(tactic| simp! only [$ts,*] $[$loc]?) => `(tactic| simp only [DL.xEq_ii, DL.xEq_ss, DL.xEq_nn, DL.xEq_bb, DL.xEq_ni, DL.xEq_in, DL.xNe_ii, DL.xNe_ss, DL.xLt_ii, DL.xGt_ii, DL.xLe_ii, DL.xGe_ii, DL.xAdd_ii, DL.xAdd_ss, DL.xAdd_tt, DL.xAdd_ll, DL.xSub_ii, DL.xMul_ii, DL.xDiv_ii, DL.xMod_ii, DL.xPow_ii, DL.xNeg_i, DL.xInt_i, DL.xInt_b, DL.xLen_t, DL.xLen_l, DL.xLen_s, DL.xLen_d, DL.xTuple_l, DL.xTuple_t, DL.xList_l, DL.xList_t, DL.xIx_t, DL.xIx_l, DL.xIx_s, DL.xIx_di, DL.xIx_ds, DL.at0, DL.at1, DL.at2, DL.at3, DL.at4, DL.at5, DL.at6, DL.at7, DL.xIs_nn, DL.xIs_i, DL.xIs_s, DL.xIs_b, DL.xIs_t, DL.xIs_l, DL.xIs_d, DL.xIsB_n, DL.xIsB_i, DL.xIsB_s, DL.xIsB_b, DL.yInt_i, DL.yInt_b, DL.yInt_n, DL.yInt_s, DL.yInt_t, DL.yInt_l, DL.yBool_i, DL.yBool_b, DL.yBool_n, DL.yBool_s, DL.yBool_t, DL.yBool_l, DL.yStr_i, DL.yStr_b, DL.yStr_n, DL.yStr_s, DL.yStr_t, DL.yStr_l, DL.yTup_i, DL.yTup_b, DL.yTup_n, DL.yTup_s, DL.yTup_t, DL.yTup_l, DL.yLst_i, DL.yLst_n, DL.yLst_s, DL.yLst_t, DL.yLst_l, DL.xIn_it, DL.xIn_il, DL.xIn_sd, DL.xLt_pp, DL.xGt_pp, DL.xLe_pp, DL.xGe_pp, DL.xII, DL.z0, DL.z1, DL.z2, DL.zput0, DL.zput1, DL.zC, DL.zV, DL.zv_d, DL.zv_l, DL.zv_k, DL.zOp, DL.zUn, DL.zlk_d, DL.zlk_l, DL.zlk_k, DL.zlk_b, DL.zls_d, DL.zls_l, DL.zls_k, DL.zfz_d, DL.zfz_l, DL.zfz_k, DL.zfz_b, DL.zfr_l, DL.zfr_k, DL.zfr_d, DL.ztB, DL.zbk, DL.ztT, DL.ztr_b, DL.ztr_i, DL.ztr_n, DL.ztr_t, DL.ztr_l, DL.ztr_s, DL.ztAnd, DL.ztOr, DL.ztNot, DL.zeAnd, DL.zeOr, DL.zeNot, DL.zeIf, DL.zaNil, DL.zaCons, DL.zTup, DL.zLst, DL.zCB, DL.zCall, DL.zCallK, DL.zfdn, DL.zDicK, DL.zpNone, DL.zpSome, DL.zpsk, DL.zSl, DL.zChain, DL.zchk, DL.zSeq, DL.zsNil, DL.zBreak, DL.zCont, DL.zIf, DL.zSet, DL.zs_d, DL.zs_l, DL.zs_k, DL.zs_b, DL.zRet, DL.zr_d, DL.zr_l, DL.zr_k, DL.zr_b, DL.zRetN, DL.zDrop, DL.zFor, DL.ziE, DL.zit_t, DL.zit_l, DL.zit_s, DL.zR1, DL.zr1, DL.zR2, DL.zr2, DL.zgN, DL.zAsg, DL.zgT, DL.zgsC, DL.zgsN, DL.zApp, DL.zap0, DL.zap, DL.zLc, DL.zclr, DL.zclr2, DL.zbck, DL.zkeep_d, DL.zkeep_n, DL.zDP, DL.zdp0, DL.zdp, DL.zky_i, DL.zky_s, DL.xSorted, DL.xNe_bb, DL.zPop, DL.zpopk, DL.zExt, DL.zextk, DL.zextk2, DL.xUpper, DL.xInW, DL.xIxW, DL.xLt_ss, DL.xLe_ss, DL.xGt_ss, DL.xSl_t, DL.xSl_l, DL.xSl_s, DL.zlNil, DL.zlCons, DL.zpin_d, DL.zpin_l, DL.zpin_k, DL.zpin_b, DL.zlkL0, DL.zlkL1, DL.zCallL, DL.zimm_d, DL.zimm_l, DL.zimm_k, DL.zimm_i, DL.zimm_s, DL.zimm_b, DL.zimm_n, DL.zimm_t, DL.zimm_0, DL.zimm_1, DL.zSortSet, DL.xInS_t, DL.xInS_l, DL.zRaise, DL.zCallX, DL.zfdnX, DL.zTryAs, DL.zTryMany, DL.zIsE, DL.ztryX, DL.zDicT, DL.zv_t, DL.zlk_t, DL.zls_t, DL.zfz_t, DL.zfr_t, DL.zs_t, DL.zr_t, DL.zTP, DL.ztp0, DL.ztp, DL.zty_ii, DL.zEnu, DL.zenuk, DL.zAsg2, DL.xAbs_i, DL.zIndex, DL.zisLst, DL.xSrtT, DL.xIx_tl, DL.xIx_dt, DL.xLen_tl, DL.zit_tl, DL.xIn_tl, DL.zAug, DL.zaugk, DL.xAddI, List.length_cons, List.length_nil, List.nil_append, List.append_nil, List.cons_append, true_and, and_true, reduceIte, if_true, if_false, decide_eq_true_eq, Bool.not_true, Bool.not_false, Bool.not_eq_true, Bool.false_eq_true, Nat.reduceAdd, Nat.zero_add, Bool.not_eq_false, decide_false, decide_true, Bool.not_eq_eq_eq_not, Bool.true_eq, decide_not, Bool.not_not, decide_eq_false_iff_not, eq_self, $ts,*] $[$loc]?)
namespace K20
open PySem PySem.Spec PyProof.Rows L2 DL
variable [Wd]

abbrev Pt := Int × Int × Int
def pD (p : Pt) : D := .tup [.int p.1, .int p.2.1, .int p.2.2]
def pl (p : Pt) : D := .tup [.int p.1, .int p.2.1]
def lx (p q : Pt) : Prop := p.1 < q.1 ∨ (p.1 = q.1 ∧ p.2.1 < q.2.1)
/-- a past: its places ascend, nothing is below nought -/
structure Ok (ps : List Pt) : Prop where
  asc : ps.Pairwise lx
  nn : ∀ p ∈ ps, 0 ≤ p.1 ∧ 0 ≤ p.2.1
  sm : ∀ p ∈ ps, Sm 100 p.2.2
  few : ps.length ≤ 1000
def oD (o : Option D) : D := match o with
  | none => .non
  | some d => d

section
variable {μ : Mu} {R : Sl → Mu → Prop}
theorem is_int_ok {i : Int} (h : R (.d (.bl true)) μ) : fn_is_int [.int i] μ R := by
  show Φ_is_int _ ⟨[.d (.int i)], μ⟩
  simp! only [Φ_is_int]
  exact h
theorem is_count_ok {i : Int} (h0 : 0 ≤ i) (h : R (.d (.bl true)) μ) : fn_is_count [.int i] μ R := by
  show Φ_is_count _ ⟨[.d (.int i)], μ⟩
  simp! only [Φ_is_count]
  refine is_int_ok ?_
  simp! only [h0]
  exact h
theorem is_tuple_of_ok {ds : List D} {n : Int} (e : (ds.length : Int) = n) (h : R (.d (.bl true)) μ) : fn_is_tuple_of [.tup ds, .int n] μ R := by
  show Φ_is_tuple_of _ ⟨[.d (.tup ds), .d (.int n)], μ⟩
  simp! only [Φ_is_tuple_of, e]
  exact h
theorem is_point_ok {p : Pt} (h0 : 0 ≤ p.1) (h1 : 0 ≤ p.2.1) (h : R (.d (.bl true)) μ) : fn_is_point [pD p] μ R := by
  show Φ_is_point _ ⟨[.d (pD p)], μ⟩
  simp! only [Φ_is_point]
  refine is_tuple_of_ok rfl ?_
  simp! only [pD]
  refine is_count_ok h0 ?_
  simp! only []
  refine is_count_ok h1 ?_
  simp! only []
  refine is_int_ok ?_
  simp! only []
  exact h
theorem place_of_ok {p : Pt} (h : R (.d (pl p)) μ) : fn_place_of [pD p] μ R := by
  show Φ_place_of _ ⟨[.d (pD p)], μ⟩
  simp! only [Φ_place_of, pD]
  exact ⟨by decide, h⟩
theorem is_past_loop {w : D} {Δ : DE} (h : ∀ x y, Δ.nx ⟨[.d w, .d x, y], μ⟩) : ∀ (ps : List Pt) (ah : Option Pt) (x : Sl), (∀ a, ah = some a → ∀ q ∈ ps, lx a q) → ps.Pairwise lx → (∀ p ∈ ps, 0 ≤ p.1 ∧ 0 ≤ p.2.1) →
    forL (gN 2) B_is_past_0 Δ (ps.map pD) ⟨[.d w, .d (oD (ah.map pl)), x], μ⟩
  | [], ah, x, _, _, _ => h _ _
  | p :: ps, ah, x, h1, h2, h3 => by
    have ih := is_past_loop h ps (some p) (.d (pD p)) (fun a e q hq => by cases e; exact (List.pairwise_cons.mp h2).1 q hq) (List.pairwise_cons.mp h2).2 fun q hq => h3 q (List.mem_cons_of_mem _ hq)
    have nn := h3 p (List.mem_cons_self ..)
    simp! only [List.map_cons, forL_cons, B_is_past_0_eq]
    refine is_point_ok nn.1 nn.2 ?_
    cases ah with
    | none =>
      simp! only [Option.map_none, oD]
      exact place_of_ok (by simp! only []; exact ih)
    | some a =>
      have hl := h1 a rfl p (List.mem_cons_self ..)
      simp! only [Option.map_some, oD, pl]
      refine place_of_ok ?_
      simp! only [pl]
      have e : ¬ ¬ (a.1 < p.1 ∨ (a.1 = p.1 ∧ a.2.1 < p.2.1)) := fun z => z hl
      simp! only [e]
      exact place_of_ok (by simp! only []; exact ih)
theorem is_past_ok {ps : List Pt} (o : Ok ps) (h : R (.d (.bl true)) μ) : fn_is_past [.tup (ps.map pD)] μ R := by
  show Φ_is_past _ ⟨[.d (.tup (ps.map pD)), .no, .no], μ⟩
  simp! only [Φ_is_past]
  refine is_past_loop (ah := none) (fun x y => ?_) ps _ (fun a e => by cases e) o.asc o.nn
  simp! only []
  exact h
def kinds : List Str := ["change", "count", "first", "greatest", "last", "least", "mean", "squares", "sum", "variance", "width"]
theorem any_strs {k : Str} : ∀ {l : List Str}, k ∈ l → ((l.map D.str).any fun z => D.eq z (.str k)) = true
  | x :: l, h => by
    show (x == k || (l.map D.str).any fun z => D.eq z (.str k)) = true
    rcases List.mem_cons.mp h with rfl | h
    · simp
    · rw [any_strs h]; simp
theorem strs_flat : ∀ {l : List Str}, D.oks (l.map D.str) = true ∧ D.deps (l.map D.str) = 0
  | [] => ⟨rfl, rfl⟩
  | x :: l => ⟨by show (true && D.oks (l.map D.str)) = true; rw [(strs_flat (l := l)).1]; rfl, by show max 0 (D.deps (l.map D.str)) = 0; rw [(strs_flat (l := l)).2]; rfl⟩
theorem cIn_strs {k : Str} {l : List Str} : cIn (.str k) (l.map D.str) := ⟨⟨rfl, strs_flat.1⟩, by rw [strs_flat.2]; exact Nat.le_trans (Nat.min_le_left _ _) (by decide)⟩
end
end K20
namespace K20
open PySem PySem.Spec PyProof.Rows L2 DL
variable [Wd]
theorem ne_change_count : ((("change" : Str)) = "count") = False := eq_false (by decide +kernel)
theorem ne_change_first : ((("change" : Str)) = "first") = False := eq_false (by decide +kernel)
theorem ne_change_greatest : ((("change" : Str)) = "greatest") = False := eq_false (by decide +kernel)
theorem ne_change_last : ((("change" : Str)) = "last") = False := eq_false (by decide +kernel)
theorem ne_change_least : ((("change" : Str)) = "least") = False := eq_false (by decide +kernel)
theorem ne_change_mean : ((("change" : Str)) = "mean") = False := eq_false (by decide +kernel)
theorem ne_change_squares : ((("change" : Str)) = "squares") = False := eq_false (by decide +kernel)
theorem ne_change_sum : ((("change" : Str)) = "sum") = False := eq_false (by decide +kernel)
theorem ne_change_variance : ((("change" : Str)) = "variance") = False := eq_false (by decide +kernel)
theorem ne_change_width : ((("change" : Str)) = "width") = False := eq_false (by decide +kernel)
theorem ne_count_change : ((("count" : Str)) = "change") = False := eq_false (by decide +kernel)
theorem ne_count_first : ((("count" : Str)) = "first") = False := eq_false (by decide +kernel)
theorem ne_count_greatest : ((("count" : Str)) = "greatest") = False := eq_false (by decide +kernel)
theorem ne_count_last : ((("count" : Str)) = "last") = False := eq_false (by decide +kernel)
theorem ne_count_least : ((("count" : Str)) = "least") = False := eq_false (by decide +kernel)
theorem ne_count_mean : ((("count" : Str)) = "mean") = False := eq_false (by decide +kernel)
theorem ne_count_squares : ((("count" : Str)) = "squares") = False := eq_false (by decide +kernel)
theorem ne_count_sum : ((("count" : Str)) = "sum") = False := eq_false (by decide +kernel)
theorem ne_count_variance : ((("count" : Str)) = "variance") = False := eq_false (by decide +kernel)
theorem ne_count_width : ((("count" : Str)) = "width") = False := eq_false (by decide +kernel)
theorem ne_first_change : ((("first" : Str)) = "change") = False := eq_false (by decide +kernel)
theorem ne_first_count : ((("first" : Str)) = "count") = False := eq_false (by decide +kernel)
theorem ne_first_greatest : ((("first" : Str)) = "greatest") = False := eq_false (by decide +kernel)
theorem ne_first_last : ((("first" : Str)) = "last") = False := eq_false (by decide +kernel)
theorem ne_first_least : ((("first" : Str)) = "least") = False := eq_false (by decide +kernel)
theorem ne_first_mean : ((("first" : Str)) = "mean") = False := eq_false (by decide +kernel)
theorem ne_first_squares : ((("first" : Str)) = "squares") = False := eq_false (by decide +kernel)
theorem ne_first_sum : ((("first" : Str)) = "sum") = False := eq_false (by decide +kernel)
theorem ne_first_variance : ((("first" : Str)) = "variance") = False := eq_false (by decide +kernel)
theorem ne_first_width : ((("first" : Str)) = "width") = False := eq_false (by decide +kernel)
theorem ne_greatest_change : ((("greatest" : Str)) = "change") = False := eq_false (by decide +kernel)
theorem ne_greatest_count : ((("greatest" : Str)) = "count") = False := eq_false (by decide +kernel)
theorem ne_greatest_first : ((("greatest" : Str)) = "first") = False := eq_false (by decide +kernel)
theorem ne_greatest_last : ((("greatest" : Str)) = "last") = False := eq_false (by decide +kernel)
theorem ne_greatest_least : ((("greatest" : Str)) = "least") = False := eq_false (by decide +kernel)
theorem ne_greatest_mean : ((("greatest" : Str)) = "mean") = False := eq_false (by decide +kernel)
theorem ne_greatest_squares : ((("greatest" : Str)) = "squares") = False := eq_false (by decide +kernel)
theorem ne_greatest_sum : ((("greatest" : Str)) = "sum") = False := eq_false (by decide +kernel)
theorem ne_greatest_variance : ((("greatest" : Str)) = "variance") = False := eq_false (by decide +kernel)
theorem ne_greatest_width : ((("greatest" : Str)) = "width") = False := eq_false (by decide +kernel)
theorem ne_last_change : ((("last" : Str)) = "change") = False := eq_false (by decide +kernel)
theorem ne_last_count : ((("last" : Str)) = "count") = False := eq_false (by decide +kernel)
theorem ne_last_first : ((("last" : Str)) = "first") = False := eq_false (by decide +kernel)
theorem ne_last_greatest : ((("last" : Str)) = "greatest") = False := eq_false (by decide +kernel)
theorem ne_last_least : ((("last" : Str)) = "least") = False := eq_false (by decide +kernel)
theorem ne_last_mean : ((("last" : Str)) = "mean") = False := eq_false (by decide +kernel)
theorem ne_last_squares : ((("last" : Str)) = "squares") = False := eq_false (by decide +kernel)
theorem ne_last_sum : ((("last" : Str)) = "sum") = False := eq_false (by decide +kernel)
theorem ne_last_variance : ((("last" : Str)) = "variance") = False := eq_false (by decide +kernel)
theorem ne_last_width : ((("last" : Str)) = "width") = False := eq_false (by decide +kernel)
theorem ne_least_change : ((("least" : Str)) = "change") = False := eq_false (by decide +kernel)
theorem ne_least_count : ((("least" : Str)) = "count") = False := eq_false (by decide +kernel)
theorem ne_least_first : ((("least" : Str)) = "first") = False := eq_false (by decide +kernel)
theorem ne_least_greatest : ((("least" : Str)) = "greatest") = False := eq_false (by decide +kernel)
theorem ne_least_last : ((("least" : Str)) = "last") = False := eq_false (by decide +kernel)
theorem ne_least_mean : ((("least" : Str)) = "mean") = False := eq_false (by decide +kernel)
theorem ne_least_squares : ((("least" : Str)) = "squares") = False := eq_false (by decide +kernel)
theorem ne_least_sum : ((("least" : Str)) = "sum") = False := eq_false (by decide +kernel)
theorem ne_least_variance : ((("least" : Str)) = "variance") = False := eq_false (by decide +kernel)
theorem ne_least_width : ((("least" : Str)) = "width") = False := eq_false (by decide +kernel)
theorem ne_mean_change : ((("mean" : Str)) = "change") = False := eq_false (by decide +kernel)
theorem ne_mean_count : ((("mean" : Str)) = "count") = False := eq_false (by decide +kernel)
theorem ne_mean_first : ((("mean" : Str)) = "first") = False := eq_false (by decide +kernel)
theorem ne_mean_greatest : ((("mean" : Str)) = "greatest") = False := eq_false (by decide +kernel)
theorem ne_mean_last : ((("mean" : Str)) = "last") = False := eq_false (by decide +kernel)
theorem ne_mean_least : ((("mean" : Str)) = "least") = False := eq_false (by decide +kernel)
theorem ne_mean_squares : ((("mean" : Str)) = "squares") = False := eq_false (by decide +kernel)
theorem ne_mean_sum : ((("mean" : Str)) = "sum") = False := eq_false (by decide +kernel)
theorem ne_mean_variance : ((("mean" : Str)) = "variance") = False := eq_false (by decide +kernel)
theorem ne_mean_width : ((("mean" : Str)) = "width") = False := eq_false (by decide +kernel)
theorem ne_squares_change : ((("squares" : Str)) = "change") = False := eq_false (by decide +kernel)
theorem ne_squares_count : ((("squares" : Str)) = "count") = False := eq_false (by decide +kernel)
theorem ne_squares_first : ((("squares" : Str)) = "first") = False := eq_false (by decide +kernel)
theorem ne_squares_greatest : ((("squares" : Str)) = "greatest") = False := eq_false (by decide +kernel)
theorem ne_squares_last : ((("squares" : Str)) = "last") = False := eq_false (by decide +kernel)
theorem ne_squares_least : ((("squares" : Str)) = "least") = False := eq_false (by decide +kernel)
theorem ne_squares_mean : ((("squares" : Str)) = "mean") = False := eq_false (by decide +kernel)
theorem ne_squares_sum : ((("squares" : Str)) = "sum") = False := eq_false (by decide +kernel)
theorem ne_squares_variance : ((("squares" : Str)) = "variance") = False := eq_false (by decide +kernel)
theorem ne_squares_width : ((("squares" : Str)) = "width") = False := eq_false (by decide +kernel)
theorem ne_sum_change : ((("sum" : Str)) = "change") = False := eq_false (by decide +kernel)
theorem ne_sum_count : ((("sum" : Str)) = "count") = False := eq_false (by decide +kernel)
theorem ne_sum_first : ((("sum" : Str)) = "first") = False := eq_false (by decide +kernel)
theorem ne_sum_greatest : ((("sum" : Str)) = "greatest") = False := eq_false (by decide +kernel)
theorem ne_sum_last : ((("sum" : Str)) = "last") = False := eq_false (by decide +kernel)
theorem ne_sum_least : ((("sum" : Str)) = "least") = False := eq_false (by decide +kernel)
theorem ne_sum_mean : ((("sum" : Str)) = "mean") = False := eq_false (by decide +kernel)
theorem ne_sum_squares : ((("sum" : Str)) = "squares") = False := eq_false (by decide +kernel)
theorem ne_sum_variance : ((("sum" : Str)) = "variance") = False := eq_false (by decide +kernel)
theorem ne_sum_width : ((("sum" : Str)) = "width") = False := eq_false (by decide +kernel)
theorem ne_variance_change : ((("variance" : Str)) = "change") = False := eq_false (by decide +kernel)
theorem ne_variance_count : ((("variance" : Str)) = "count") = False := eq_false (by decide +kernel)
theorem ne_variance_first : ((("variance" : Str)) = "first") = False := eq_false (by decide +kernel)
theorem ne_variance_greatest : ((("variance" : Str)) = "greatest") = False := eq_false (by decide +kernel)
theorem ne_variance_last : ((("variance" : Str)) = "last") = False := eq_false (by decide +kernel)
theorem ne_variance_least : ((("variance" : Str)) = "least") = False := eq_false (by decide +kernel)
theorem ne_variance_mean : ((("variance" : Str)) = "mean") = False := eq_false (by decide +kernel)
theorem ne_variance_squares : ((("variance" : Str)) = "squares") = False := eq_false (by decide +kernel)
theorem ne_variance_sum : ((("variance" : Str)) = "sum") = False := eq_false (by decide +kernel)
theorem ne_variance_width : ((("variance" : Str)) = "width") = False := eq_false (by decide +kernel)
theorem ne_width_change : ((("width" : Str)) = "change") = False := eq_false (by decide +kernel)
theorem ne_width_count : ((("width" : Str)) = "count") = False := eq_false (by decide +kernel)
theorem ne_width_first : ((("width" : Str)) = "first") = False := eq_false (by decide +kernel)
theorem ne_width_greatest : ((("width" : Str)) = "greatest") = False := eq_false (by decide +kernel)
theorem ne_width_last : ((("width" : Str)) = "last") = False := eq_false (by decide +kernel)
theorem ne_width_least : ((("width" : Str)) = "least") = False := eq_false (by decide +kernel)
theorem ne_width_mean : ((("width" : Str)) = "mean") = False := eq_false (by decide +kernel)
theorem ne_width_squares : ((("width" : Str)) = "squares") = False := eq_false (by decide +kernel)
theorem ne_width_sum : ((("width" : Str)) = "sum") = False := eq_false (by decide +kernel)
theorem ne_width_variance : ((("width" : Str)) = "variance") = False := eq_false (by decide +kernel)
def vD (o : Option Int) : D := match o with
  | none => .non
  | some i => .int i
def sumI (ps : List Pt) : Int := (ps.map fun p => p.2.2).sum
def sqI (ps : List Pt) : Int := (ps.map fun p => p.2.2 * p.2.2).sum
def leStep (o : Option Int) (v : Int) : Option Int := match o with
  | none => some v
  | some m => if v < m then some v else some m
def grStep (o : Option Int) (v : Int) : Option Int := match o with
  | none => some v
  | some m => if m < v then some v else some m
def leF (o : Option Int) (ps : List Pt) : Option Int := ps.foldl (fun o p => leStep o p.2.2) o
def grF (o : Option Int) (ps : List Pt) : Option Int := ps.foldl (fun o p => grStep o p.2.2) o
/-- the end that is told: time and value -/
def eD (o : Option Pt) : D := match o with
  | none => .non
  | some p => .tup [.int p.1, .int p.2.2]
section
variable {μ : Mu} {R : Sl → Mu → Prop} {w : D} {Δ : DE}
theorem count_of_ok {ps : List Pt} (h : R (.d (.int ps.length)) μ) : fn_count_of [.tup (ps.map pD)] μ R := by
  show Φ_count_of _ ⟨[.d (.tup (ps.map pD))], μ⟩
  simp! only [Φ_count_of, List.length_map]
  exact h
theorem sum_loop : ∀ (ps : List Pt) (t : Int) (x : Sl) (h : ∀ y, Δ.nx ⟨[.d w, .d (.int (t + sumI ps)), y], μ⟩), forL (gN 2) B_sum_of_0 Δ (ps.map pD) ⟨[.d w, .d (.int t), x], μ⟩
  | [], t, x, h => by have := h x; rw [show t + sumI [] = t from Int.add_zero t] at this; exact this
  | p :: ps, t, x, h => by
    simp! only [List.map_cons, forL_cons, B_sum_of_0_eq, pD]
    refine sum_loop ps _ _ fun y => ?_
    have := h y
    rw [show sumI (p :: ps) = p.2.2 + sumI ps from by simp [sumI], ← Int.add_assoc] at this
    exact this
theorem sum_of_ok {ps : List Pt} (h : R (.d (.int (sumI ps))) μ) : fn_sum_of [.tup (ps.map pD)] μ R := by
  show Φ_sum_of _ ⟨[.d (.tup (ps.map pD)), .no, .no], μ⟩
  simp! only [Φ_sum_of]
  refine sum_loop ps _ _ fun y => ?_
  simp! only [Int.zero_add]
  exact h
theorem sq_loop : ∀ (ps : List Pt) (t : Int) (x : Sl) (hs : ∀ p ∈ ps, Sm 100 p.2.2) (h : ∀ y, Δ.nx ⟨[.d w, .d (.int (t + sqI ps)), y], μ⟩), forL (gN 2) B_squares_of_0 Δ (ps.map pD) ⟨[.d w, .d (.int t), x], μ⟩
  | [], t, x, _, h => by have := h x; rw [show t + sqI [] = t from Int.add_zero t] at this; exact this
  | p :: ps, t, x, hs, h => by
    have hp := hs p (List.mem_cons_self ..)
    simp! only [List.map_cons, forL_cons, B_squares_of_0_eq, pD]
    refine ⟨hp.cmul hp, ?_⟩
    refine sq_loop ps _ _ (fun q hq => hs q (List.mem_cons_of_mem _ hq)) fun y => ?_
    have := h y
    rw [show sqI (p :: ps) = p.2.2 * p.2.2 + sqI ps from by simp [sqI], ← Int.add_assoc] at this
    exact this
theorem squares_of_ok {ps : List Pt} (hs : ∀ p ∈ ps, Sm 100 p.2.2) (h : R (.d (.int (sqI ps))) μ) : fn_squares_of [.tup (ps.map pD)] μ R := by
  show Φ_squares_of _ ⟨[.d (.tup (ps.map pD)), .no, .no], μ⟩
  simp! only [Φ_squares_of]
  refine sq_loop ps _ _ hs fun y => ?_
  simp! only [Int.zero_add]
  exact h
theorem least_loop : ∀ (ps : List Pt) (o : Option Int) (x : Sl) (h : ∀ y, Δ.nx ⟨[.d w, .d (vD (leF o ps)), y], μ⟩), forL (gN 2) B_least_of_0 Δ (ps.map pD) ⟨[.d w, .d (vD o), x], μ⟩
  | [], o, x, h => h x
  | p :: ps, o, x, h => by
    have ih := least_loop ps (leStep o p.2.2) (.d (pD p)) h
    simp! only [List.map_cons, forL_cons, B_least_of_0_eq, pD]
    cases o with
    | none => simp! only [vD]; exact ih
    | some m =>
      simp! only [vD]
      by_cases hm : p.2.2 < m
      · simp! only [hm]
        simp only [leStep, hm, if_true, vD] at ih
        exact ih
      · simp! only [hm]
        simp only [leStep, hm, if_false, vD] at ih
        exact ih
theorem least_of_ok {ps : List Pt} (h : R (.d (vD (leF none ps))) μ) : fn_least_of [.tup (ps.map pD)] μ R := by
  show Φ_least_of _ ⟨[.d (.tup (ps.map pD)), .no, .no], μ⟩
  simp! only [Φ_least_of]
  refine least_loop ps none _ fun y => ?_
  simp! only []
  exact h
theorem greatest_loop : ∀ (ps : List Pt) (o : Option Int) (x : Sl) (h : ∀ y, Δ.nx ⟨[.d w, .d (vD (grF o ps)), y], μ⟩), forL (gN 2) B_greatest_of_0 Δ (ps.map pD) ⟨[.d w, .d (vD o), x], μ⟩
  | [], o, x, h => h x
  | p :: ps, o, x, h => by
    have ih := greatest_loop ps (grStep o p.2.2) (.d (pD p)) h
    simp! only [List.map_cons, forL_cons, B_greatest_of_0_eq, pD]
    cases o with
    | none => simp! only [vD]; exact ih
    | some m =>
      simp! only [vD]
      by_cases hm : m < p.2.2
      · simp! only [hm]
        simp only [grStep, hm, if_true, vD] at ih
        exact ih
      · simp! only [hm]
        simp only [grStep, hm, if_false, vD] at ih
        exact ih
theorem greatest_of_ok {ps : List Pt} (h : R (.d (vD (grF none ps))) μ) : fn_greatest_of [.tup (ps.map pD)] μ R := by
  show Φ_greatest_of _ ⟨[.d (.tup (ps.map pD)), .no, .no], μ⟩
  simp! only [Φ_greatest_of]
  refine greatest_loop ps none _ fun y => ?_
  simp! only []
  exact h
theorem lx_irr {p q : Pt} (h : lx p q) : ¬ (q.1 < p.1 ∨ (q.1 = p.1 ∧ q.2.1 < p.2.1)) := by unfold lx at h; omega
theorem first_loop : ∀ (ps : List Pt) (f : Pt) (x : Sl) (hf : ∀ q ∈ ps, lx f q) (h : ∀ y, Δ.nx ⟨[.d w, .d (pD f), y], μ⟩), forL (gN 2) B_first_of_0 Δ (ps.map pD) ⟨[.d w, .d (pD f), x], μ⟩
  | [], f, x, _, h => h x
  | p :: ps, f, x, hf, h => by
    have ih := first_loop ps f (.d (pD p)) (fun q hq => hf q (List.mem_cons_of_mem _ hq)) h
    have hm := lx_irr (hf p (List.mem_cons_self ..))
    simp! only [List.map_cons, forL_cons, B_first_of_0_eq]
    rw [show pD f = .tup [.int f.1, .int f.2.1, .int f.2.2] from rfl]
    simp! only []
    refine place_of_ok ?_
    simp! only []
    refine place_of_ok (p := f) ?_
    simp! only [pl, hm]
    exact ih
theorem first_of_ok {ps : List Pt} (o : ps.Pairwise lx) (h : R (.d (eD ps.head?)) μ) : fn_first_of [.tup (ps.map pD)] μ R := by
  show Φ_first_of _ ⟨[.d (.tup (ps.map pD)), .no, .no], μ⟩
  simp! only [Φ_first_of]
  cases ps with
  | nil =>
    simp! only [List.map_nil, forL_nil]
    exact h
  | cons p ps =>
    simp! only [List.map_cons, forL_cons, B_first_of_0_eq]
    refine first_loop ps p _ (List.pairwise_cons.mp o).1 fun y => ?_
    simp! only [pD]
    exact ⟨by decide, h⟩
theorem last_loop : ∀ (ps : List Pt) (f : Pt) (x : Sl) (hf : (f :: ps).Pairwise lx) (h : ∀ y, Δ.nx ⟨[.d w, .d (pD ((f :: ps).getLast (by simp))), y], μ⟩), forL (gN 2) B_last_of_0 Δ (ps.map pD) ⟨[.d w, .d (pD f), x], μ⟩
  | [], f, x, _, h => h x
  | p :: ps, f, x, hf, h => by
    have ih := last_loop ps p (.d (pD p)) (List.pairwise_cons.mp hf).2 (fun y => by have := h y; rw [List.getLast_cons (by simp)] at this; exact this)
    have hm : f.1 < p.1 ∨ (f.1 = p.1 ∧ f.2.1 < p.2.1) := (List.pairwise_cons.mp hf).1 p (List.mem_cons_self ..)
    simp! only [List.map_cons, forL_cons, B_last_of_0_eq]
    rw [show pD f = .tup [.int f.1, .int f.2.1, .int f.2.2] from rfl]
    simp! only []
    refine place_of_ok ?_
    simp! only []
    refine place_of_ok (p := f) ?_
    simp! only [pl, hm]
    exact ih
theorem last_of_ok {ps : List Pt} (o : ps.Pairwise lx) (h : R (.d (eD ps.getLast?)) μ) : fn_last_of [.tup (ps.map pD)] μ R := by
  show Φ_last_of _ ⟨[.d (.tup (ps.map pD)), .no, .no], μ⟩
  simp! only [Φ_last_of]
  cases ps with
  | nil =>
    simp! only [List.map_nil, forL_nil]
    exact h
  | cons p ps =>
    simp! only [List.map_cons, forL_cons, B_last_of_0_eq]
    refine last_loop ps p _ o fun y => ?_
    simp! only [pD]
    rw [List.getLast?_eq_some_getLast (by simp)] at h
    exact ⟨by decide, h⟩
/-- what is measured -/
def rows7 (ps : List Pt) : List (Str × D) := [("count", .int ps.length), ("first", eD ps.head?), ("greatest", vD (grF none ps)), ("last", eD ps.getLast?), ("least", vD (leF none ps)), ("squares", .int (sqI ps)), ("sum", .int (sumI ps))]
theorem m_count {ps : List Pt} (h : R (.d (.int ps.length)) μ) : fn_measured [.tup (ps.map pD), .str "count"] μ R := by
  show Φ_measured _ ⟨[.d (.tup (ps.map pD)), .d (.str "count")], μ⟩
  simp! only [Φ_measured, ne_change_count, ne_change_first, ne_change_greatest, ne_change_last, ne_change_least, ne_change_mean, ne_change_squares, ne_change_sum, ne_change_variance, ne_change_width, ne_count_change, ne_count_first, ne_count_greatest, ne_count_last, ne_count_least, ne_count_mean, ne_count_squares, ne_count_sum, ne_count_variance, ne_count_width, ne_first_change, ne_first_count, ne_first_greatest, ne_first_last, ne_first_least, ne_first_mean, ne_first_squares, ne_first_sum, ne_first_variance, ne_first_width, ne_greatest_change, ne_greatest_count, ne_greatest_first, ne_greatest_last, ne_greatest_least, ne_greatest_mean, ne_greatest_squares, ne_greatest_sum, ne_greatest_variance, ne_greatest_width, ne_last_change, ne_last_count, ne_last_first, ne_last_greatest, ne_last_least, ne_last_mean, ne_last_squares, ne_last_sum, ne_last_variance, ne_last_width, ne_least_change, ne_least_count, ne_least_first, ne_least_greatest, ne_least_last, ne_least_mean, ne_least_squares, ne_least_sum, ne_least_variance, ne_least_width, ne_mean_change, ne_mean_count, ne_mean_first, ne_mean_greatest, ne_mean_last, ne_mean_least, ne_mean_squares, ne_mean_sum, ne_mean_variance, ne_mean_width, ne_squares_change, ne_squares_count, ne_squares_first, ne_squares_greatest, ne_squares_last, ne_squares_least, ne_squares_mean, ne_squares_sum, ne_squares_variance, ne_squares_width, ne_sum_change, ne_sum_count, ne_sum_first, ne_sum_greatest, ne_sum_last, ne_sum_least, ne_sum_mean, ne_sum_squares, ne_sum_variance, ne_sum_width, ne_variance_change, ne_variance_count, ne_variance_first, ne_variance_greatest, ne_variance_last, ne_variance_least, ne_variance_mean, ne_variance_squares, ne_variance_sum, ne_variance_width, ne_width_change, ne_width_count, ne_width_first, ne_width_greatest, ne_width_last, ne_width_least, ne_width_mean, ne_width_squares, ne_width_sum, ne_width_variance]
  refine count_of_ok ?_
  simp! only []
  exact h
theorem m_squares {ps : List Pt} (o : Ok ps) (h : R (.d (.int (sqI ps))) μ) : fn_measured [.tup (ps.map pD), .str "squares"] μ R := by
  show Φ_measured _ ⟨[.d (.tup (ps.map pD)), .d (.str "squares")], μ⟩
  simp! only [Φ_measured, ne_change_count, ne_change_first, ne_change_greatest, ne_change_last, ne_change_least, ne_change_mean, ne_change_squares, ne_change_sum, ne_change_variance, ne_change_width, ne_count_change, ne_count_first, ne_count_greatest, ne_count_last, ne_count_least, ne_count_mean, ne_count_squares, ne_count_sum, ne_count_variance, ne_count_width, ne_first_change, ne_first_count, ne_first_greatest, ne_first_last, ne_first_least, ne_first_mean, ne_first_squares, ne_first_sum, ne_first_variance, ne_first_width, ne_greatest_change, ne_greatest_count, ne_greatest_first, ne_greatest_last, ne_greatest_least, ne_greatest_mean, ne_greatest_squares, ne_greatest_sum, ne_greatest_variance, ne_greatest_width, ne_last_change, ne_last_count, ne_last_first, ne_last_greatest, ne_last_least, ne_last_mean, ne_last_squares, ne_last_sum, ne_last_variance, ne_last_width, ne_least_change, ne_least_count, ne_least_first, ne_least_greatest, ne_least_last, ne_least_mean, ne_least_squares, ne_least_sum, ne_least_variance, ne_least_width, ne_mean_change, ne_mean_count, ne_mean_first, ne_mean_greatest, ne_mean_last, ne_mean_least, ne_mean_squares, ne_mean_sum, ne_mean_variance, ne_mean_width, ne_squares_change, ne_squares_count, ne_squares_first, ne_squares_greatest, ne_squares_last, ne_squares_least, ne_squares_mean, ne_squares_sum, ne_squares_variance, ne_squares_width, ne_sum_change, ne_sum_count, ne_sum_first, ne_sum_greatest, ne_sum_last, ne_sum_least, ne_sum_mean, ne_sum_squares, ne_sum_variance, ne_sum_width, ne_variance_change, ne_variance_count, ne_variance_first, ne_variance_greatest, ne_variance_last, ne_variance_least, ne_variance_mean, ne_variance_squares, ne_variance_sum, ne_variance_width, ne_width_change, ne_width_count, ne_width_first, ne_width_greatest, ne_width_last, ne_width_least, ne_width_mean, ne_width_squares, ne_width_sum, ne_width_variance]
  refine squares_of_ok o.sm ?_
  simp! only []
  exact h
theorem m_least {ps : List Pt} (h : R (.d (vD (leF none ps))) μ) : fn_measured [.tup (ps.map pD), .str "least"] μ R := by
  show Φ_measured _ ⟨[.d (.tup (ps.map pD)), .d (.str "least")], μ⟩
  simp! only [Φ_measured, ne_change_count, ne_change_first, ne_change_greatest, ne_change_last, ne_change_least, ne_change_mean, ne_change_squares, ne_change_sum, ne_change_variance, ne_change_width, ne_count_change, ne_count_first, ne_count_greatest, ne_count_last, ne_count_least, ne_count_mean, ne_count_squares, ne_count_sum, ne_count_variance, ne_count_width, ne_first_change, ne_first_count, ne_first_greatest, ne_first_last, ne_first_least, ne_first_mean, ne_first_squares, ne_first_sum, ne_first_variance, ne_first_width, ne_greatest_change, ne_greatest_count, ne_greatest_first, ne_greatest_last, ne_greatest_least, ne_greatest_mean, ne_greatest_squares, ne_greatest_sum, ne_greatest_variance, ne_greatest_width, ne_last_change, ne_last_count, ne_last_first, ne_last_greatest, ne_last_least, ne_last_mean, ne_last_squares, ne_last_sum, ne_last_variance, ne_last_width, ne_least_change, ne_least_count, ne_least_first, ne_least_greatest, ne_least_last, ne_least_mean, ne_least_squares, ne_least_sum, ne_least_variance, ne_least_width, ne_mean_change, ne_mean_count, ne_mean_first, ne_mean_greatest, ne_mean_last, ne_mean_least, ne_mean_squares, ne_mean_sum, ne_mean_variance, ne_mean_width, ne_squares_change, ne_squares_count, ne_squares_first, ne_squares_greatest, ne_squares_last, ne_squares_least, ne_squares_mean, ne_squares_sum, ne_squares_variance, ne_squares_width, ne_sum_change, ne_sum_count, ne_sum_first, ne_sum_greatest, ne_sum_last, ne_sum_least, ne_sum_mean, ne_sum_squares, ne_sum_variance, ne_sum_width, ne_variance_change, ne_variance_count, ne_variance_first, ne_variance_greatest, ne_variance_last, ne_variance_least, ne_variance_mean, ne_variance_squares, ne_variance_sum, ne_variance_width, ne_width_change, ne_width_count, ne_width_first, ne_width_greatest, ne_width_last, ne_width_least, ne_width_mean, ne_width_squares, ne_width_sum, ne_width_variance]
  refine least_of_ok ?_
  simp! only []
  exact h
theorem m_greatest {ps : List Pt} (h : R (.d (vD (grF none ps))) μ) : fn_measured [.tup (ps.map pD), .str "greatest"] μ R := by
  show Φ_measured _ ⟨[.d (.tup (ps.map pD)), .d (.str "greatest")], μ⟩
  simp! only [Φ_measured, ne_change_count, ne_change_first, ne_change_greatest, ne_change_last, ne_change_least, ne_change_mean, ne_change_squares, ne_change_sum, ne_change_variance, ne_change_width, ne_count_change, ne_count_first, ne_count_greatest, ne_count_last, ne_count_least, ne_count_mean, ne_count_squares, ne_count_sum, ne_count_variance, ne_count_width, ne_first_change, ne_first_count, ne_first_greatest, ne_first_last, ne_first_least, ne_first_mean, ne_first_squares, ne_first_sum, ne_first_variance, ne_first_width, ne_greatest_change, ne_greatest_count, ne_greatest_first, ne_greatest_last, ne_greatest_least, ne_greatest_mean, ne_greatest_squares, ne_greatest_sum, ne_greatest_variance, ne_greatest_width, ne_last_change, ne_last_count, ne_last_first, ne_last_greatest, ne_last_least, ne_last_mean, ne_last_squares, ne_last_sum, ne_last_variance, ne_last_width, ne_least_change, ne_least_count, ne_least_first, ne_least_greatest, ne_least_last, ne_least_mean, ne_least_squares, ne_least_sum, ne_least_variance, ne_least_width, ne_mean_change, ne_mean_count, ne_mean_first, ne_mean_greatest, ne_mean_last, ne_mean_least, ne_mean_squares, ne_mean_sum, ne_mean_variance, ne_mean_width, ne_squares_change, ne_squares_count, ne_squares_first, ne_squares_greatest, ne_squares_last, ne_squares_least, ne_squares_mean, ne_squares_sum, ne_squares_variance, ne_squares_width, ne_sum_change, ne_sum_count, ne_sum_first, ne_sum_greatest, ne_sum_last, ne_sum_least, ne_sum_mean, ne_sum_squares, ne_sum_variance, ne_sum_width, ne_variance_change, ne_variance_count, ne_variance_first, ne_variance_greatest, ne_variance_last, ne_variance_least, ne_variance_mean, ne_variance_squares, ne_variance_sum, ne_variance_width, ne_width_change, ne_width_count, ne_width_first, ne_width_greatest, ne_width_last, ne_width_least, ne_width_mean, ne_width_squares, ne_width_sum, ne_width_variance]
  refine greatest_of_ok ?_
  simp! only []
  exact h
theorem m_first {ps : List Pt} (o : Ok ps) (h : R (.d (eD ps.head?)) μ) : fn_measured [.tup (ps.map pD), .str "first"] μ R := by
  show Φ_measured _ ⟨[.d (.tup (ps.map pD)), .d (.str "first")], μ⟩
  simp! only [Φ_measured, ne_change_count, ne_change_first, ne_change_greatest, ne_change_last, ne_change_least, ne_change_mean, ne_change_squares, ne_change_sum, ne_change_variance, ne_change_width, ne_count_change, ne_count_first, ne_count_greatest, ne_count_last, ne_count_least, ne_count_mean, ne_count_squares, ne_count_sum, ne_count_variance, ne_count_width, ne_first_change, ne_first_count, ne_first_greatest, ne_first_last, ne_first_least, ne_first_mean, ne_first_squares, ne_first_sum, ne_first_variance, ne_first_width, ne_greatest_change, ne_greatest_count, ne_greatest_first, ne_greatest_last, ne_greatest_least, ne_greatest_mean, ne_greatest_squares, ne_greatest_sum, ne_greatest_variance, ne_greatest_width, ne_last_change, ne_last_count, ne_last_first, ne_last_greatest, ne_last_least, ne_last_mean, ne_last_squares, ne_last_sum, ne_last_variance, ne_last_width, ne_least_change, ne_least_count, ne_least_first, ne_least_greatest, ne_least_last, ne_least_mean, ne_least_squares, ne_least_sum, ne_least_variance, ne_least_width, ne_mean_change, ne_mean_count, ne_mean_first, ne_mean_greatest, ne_mean_last, ne_mean_least, ne_mean_squares, ne_mean_sum, ne_mean_variance, ne_mean_width, ne_squares_change, ne_squares_count, ne_squares_first, ne_squares_greatest, ne_squares_last, ne_squares_least, ne_squares_mean, ne_squares_sum, ne_squares_variance, ne_squares_width, ne_sum_change, ne_sum_count, ne_sum_first, ne_sum_greatest, ne_sum_last, ne_sum_least, ne_sum_mean, ne_sum_squares, ne_sum_variance, ne_sum_width, ne_variance_change, ne_variance_count, ne_variance_first, ne_variance_greatest, ne_variance_last, ne_variance_least, ne_variance_mean, ne_variance_squares, ne_variance_sum, ne_variance_width, ne_width_change, ne_width_count, ne_width_first, ne_width_greatest, ne_width_last, ne_width_least, ne_width_mean, ne_width_squares, ne_width_sum, ne_width_variance]
  refine first_of_ok o.asc ?_
  simp! only []
  exact h
theorem m_last {ps : List Pt} (o : Ok ps) (h : R (.d (eD ps.getLast?)) μ) : fn_measured [.tup (ps.map pD), .str "last"] μ R := by
  show Φ_measured _ ⟨[.d (.tup (ps.map pD)), .d (.str "last")], μ⟩
  simp! only [Φ_measured, ne_change_count, ne_change_first, ne_change_greatest, ne_change_last, ne_change_least, ne_change_mean, ne_change_squares, ne_change_sum, ne_change_variance, ne_change_width, ne_count_change, ne_count_first, ne_count_greatest, ne_count_last, ne_count_least, ne_count_mean, ne_count_squares, ne_count_sum, ne_count_variance, ne_count_width, ne_first_change, ne_first_count, ne_first_greatest, ne_first_last, ne_first_least, ne_first_mean, ne_first_squares, ne_first_sum, ne_first_variance, ne_first_width, ne_greatest_change, ne_greatest_count, ne_greatest_first, ne_greatest_last, ne_greatest_least, ne_greatest_mean, ne_greatest_squares, ne_greatest_sum, ne_greatest_variance, ne_greatest_width, ne_last_change, ne_last_count, ne_last_first, ne_last_greatest, ne_last_least, ne_last_mean, ne_last_squares, ne_last_sum, ne_last_variance, ne_last_width, ne_least_change, ne_least_count, ne_least_first, ne_least_greatest, ne_least_last, ne_least_mean, ne_least_squares, ne_least_sum, ne_least_variance, ne_least_width, ne_mean_change, ne_mean_count, ne_mean_first, ne_mean_greatest, ne_mean_last, ne_mean_least, ne_mean_squares, ne_mean_sum, ne_mean_variance, ne_mean_width, ne_squares_change, ne_squares_count, ne_squares_first, ne_squares_greatest, ne_squares_last, ne_squares_least, ne_squares_mean, ne_squares_sum, ne_squares_variance, ne_squares_width, ne_sum_change, ne_sum_count, ne_sum_first, ne_sum_greatest, ne_sum_last, ne_sum_least, ne_sum_mean, ne_sum_squares, ne_sum_variance, ne_sum_width, ne_variance_change, ne_variance_count, ne_variance_first, ne_variance_greatest, ne_variance_last, ne_variance_least, ne_variance_mean, ne_variance_squares, ne_variance_sum, ne_variance_width, ne_width_change, ne_width_count, ne_width_first, ne_width_greatest, ne_width_last, ne_width_least, ne_width_mean, ne_width_squares, ne_width_sum, ne_width_variance]
  refine last_of_ok o.asc ?_
  simp! only []
  exact h
theorem m_sum {ps : List Pt} (h : R (.d (.int (sumI ps))) μ) : fn_measured [.tup (ps.map pD), .str "sum"] μ R := by
  show Φ_measured _ ⟨[.d (.tup (ps.map pD)), .d (.str "sum")], μ⟩
  simp! only [Φ_measured, ne_change_count, ne_change_first, ne_change_greatest, ne_change_last, ne_change_least, ne_change_mean, ne_change_squares, ne_change_sum, ne_change_variance, ne_change_width, ne_count_change, ne_count_first, ne_count_greatest, ne_count_last, ne_count_least, ne_count_mean, ne_count_squares, ne_count_sum, ne_count_variance, ne_count_width, ne_first_change, ne_first_count, ne_first_greatest, ne_first_last, ne_first_least, ne_first_mean, ne_first_squares, ne_first_sum, ne_first_variance, ne_first_width, ne_greatest_change, ne_greatest_count, ne_greatest_first, ne_greatest_last, ne_greatest_least, ne_greatest_mean, ne_greatest_squares, ne_greatest_sum, ne_greatest_variance, ne_greatest_width, ne_last_change, ne_last_count, ne_last_first, ne_last_greatest, ne_last_least, ne_last_mean, ne_last_squares, ne_last_sum, ne_last_variance, ne_last_width, ne_least_change, ne_least_count, ne_least_first, ne_least_greatest, ne_least_last, ne_least_mean, ne_least_squares, ne_least_sum, ne_least_variance, ne_least_width, ne_mean_change, ne_mean_count, ne_mean_first, ne_mean_greatest, ne_mean_last, ne_mean_least, ne_mean_squares, ne_mean_sum, ne_mean_variance, ne_mean_width, ne_squares_change, ne_squares_count, ne_squares_first, ne_squares_greatest, ne_squares_last, ne_squares_least, ne_squares_mean, ne_squares_sum, ne_squares_variance, ne_squares_width, ne_sum_change, ne_sum_count, ne_sum_first, ne_sum_greatest, ne_sum_last, ne_sum_least, ne_sum_mean, ne_sum_squares, ne_sum_variance, ne_sum_width, ne_variance_change, ne_variance_count, ne_variance_first, ne_variance_greatest, ne_variance_last, ne_variance_least, ne_variance_mean, ne_variance_squares, ne_variance_sum, ne_variance_width, ne_width_change, ne_width_count, ne_width_first, ne_width_greatest, ne_width_last, ne_width_least, ne_width_mean, ne_width_squares, ne_width_sum, ne_width_variance]
  refine sum_of_ok ?_
  simp! only []
  exact h
theorem measured_ok {ps : List Pt} (o : Ok ps) : ∀ kv ∈ rows7 ps, R (.d kv.2) μ → fn_measured [.tup (ps.map pD), .str kv.1] μ R := by
  intro kv hk h
  simp only [rows7, List.mem_cons, List.not_mem_nil, or_false] at hk
  rcases hk with rfl | rfl | rfl | rfl | rfl | rfl | rfl
  · exact m_count h
  · exact m_first o h
  · exact m_greatest h
  · exact m_last o h
  · exact m_least h
  · exact m_squares o h
  · exact m_sum h

/-! within -/
def inSpan (lo hi : Int) (p : Pt) : Bool := decide (lo ≤ p.1) && decide (p.1 < hi)
theorem Ok.filter {ps : List Pt} {f : Pt → Bool} (o : Ok ps) : Ok (ps.filter f) :=
  ⟨o.asc.sublist List.filter_sublist, fun p hp => o.nn p (List.mem_filter.mp hp).1, fun p hp => o.sm p (List.mem_filter.mp hp).1, Nat.le_trans (List.length_filter_le ..) o.few⟩
end
end K20
namespace K20
open PySem PySem.Spec PyProof.Rows L2 DL
variable [Wd]
theorem asInts_map : ∀ ns : List Int, asInts (ns.map D.int) = some ns
  | [] => rfl
  | n :: ns => by show (asInts (ns.map D.int)).map (n :: ·) = _; rw [asInts_map ns]; rfl
theorem xSumL {ns : List Int} {R : Sl → Prop} : oSum (.lst (ns.map D.int)) R = R (.d (.int ns.sum)) := by
  show (match asInts (ns.map D.int) with
    | some bs => R (.d (.int bs.sum))
    | none => False) = _
  rw [asInts_map]
theorem xMinL {ns : List Int} {R : Sl → Prop} : oMinL (.lst (ns.map D.int)) R = (0 < ns.length ∧ ∀ m, m ∈ ns → (∀ y, y ∈ ns → m ≤ y) → R (.d (.int m))) := by
  show (match asInts (ns.map D.int) with
    | some bs => 0 < bs.length ∧ ∀ m, m ∈ bs → (∀ y, y ∈ bs → m ≤ y) → R (.d (.int m))
    | none => False) = _
  rw [asInts_map]
theorem xMaxL {ns : List Int} {R : Sl → Prop} : oMaxL (.lst (ns.map D.int)) R = (0 < ns.length ∧ ∀ m, m ∈ ns → (∀ y, y ∈ ns → y ≤ m) → R (.d (.int m))) := by
  show (match asInts (ns.map D.int) with
    | some bs => 0 < bs.length ∧ ∀ m, m ∈ bs → (∀ y, y ∈ bs → y ≤ m) → R (.d (.int m))
    | none => False) = _
  rw [asInts_map]
/-! least and greatest -/
theorem leF_spec : ∀ (l : List Pt) (o : Int), ∃ m, leF (some o) l = some m ∧ m ≤ o ∧ (∀ p ∈ l, m ≤ p.2.2) ∧ (m = o ∨ ∃ p ∈ l, p.2.2 = m)
  | [], o => ⟨o, rfl, Int.le_refl _, (fun p hp => by cases hp), .inl rfl⟩
  | a :: l, o => by
    by_cases h : a.2.2 < o
    · obtain ⟨m, h1, h2, h3, h4⟩ := leF_spec l a.2.2
      refine ⟨m, ?_, by omega, fun p hp => ?_, .inr ?_⟩
      · show leF (leStep (some o) a.2.2) l = _
        unfold leStep
        simp only [h, if_true]
        exact h1
      · rcases List.mem_cons.mp hp with e | hp
        · rw [e]; exact h2
        · exact h3 p hp
      · rcases h4 with h4 | ⟨p, hp, h4⟩
        · exact ⟨a, List.mem_cons_self .., h4.symm⟩
        · exact ⟨p, List.mem_cons_of_mem _ hp, h4⟩
    · obtain ⟨m, h1, h2, h3, h4⟩ := leF_spec l o
      refine ⟨m, ?_, h2, fun p hp => ?_, ?_⟩
      · show leF (leStep (some o) a.2.2) l = _
        unfold leStep
        simp only [h, if_false]
        exact h1
      · rcases List.mem_cons.mp hp with e | hp
        · rw [e]; omega
        · exact h3 p hp
      · rcases h4 with h4 | ⟨p, hp, h4⟩
        · exact .inl h4
        · exact .inr ⟨p, List.mem_cons_of_mem _ hp, h4⟩
theorem leF_uniq {l : List Pt} {m : Int} (h1 : ∃ p ∈ l, p.2.2 = m) (h2 : ∀ p ∈ l, m ≤ p.2.2) : leF none l = some m := by
  cases l with
  | nil => obtain ⟨p, hp, _⟩ := h1; cases hp
  | cons a l =>
    obtain ⟨m', e1, e2, e3, e4⟩ := leF_spec l a.2.2
    show leF (some a.2.2) l = some m
    rw [e1]
    congr 1
    obtain ⟨p, hp, rfl⟩ := h1
    have k1 : m' ≤ p.2.2 := by
      rcases List.mem_cons.mp hp with e | hp
      · rw [e]; exact e2
      · exact e3 p hp
    have k2 : p.2.2 ≤ m' := by
      rcases e4 with e4 | ⟨q, hq, e4⟩
      · rw [e4]; exact h2 a (List.mem_cons_self ..)
      · rw [← e4]; exact h2 q (List.mem_cons_of_mem _ hq)
    omega
/-- greatest, by least of what is turned about -/
def ng (p : Pt) : Pt := (p.1, p.2.1, -p.2.2)
theorem grF_ng : ∀ (l : List Pt) (o : Option Int), (grF o l).map (- ·) = leF (o.map (- ·)) (l.map ng)
  | [], o => rfl
  | a :: l, o => by
    show (grF (grStep o a.2.2) l).map (- ·) = leF (leStep (o.map (- ·)) (-a.2.2)) (l.map ng)
    rw [grF_ng l]
    congr 1
    cases o with
    | none => rfl
    | some m =>
      show (if m < a.2.2 then some a.2.2 else some m).map (- ·) = if -a.2.2 < -m then some (-a.2.2) else some (-m)
      by_cases h : m < a.2.2
      · rw [if_pos h, if_pos (by omega)]; rfl
      · rw [if_neg h, if_neg (by omega)]; rfl
theorem grF_uniq {l : List Pt} {m : Int} (h1 : ∃ p ∈ l, p.2.2 = m) (h2 : ∀ p ∈ l, p.2.2 ≤ m) : grF none l = some m := by
  have e := grF_ng l none
  have : leF none (l.map ng) = some (-m) := by
    refine leF_uniq ?_ fun p hp => ?_
    · obtain ⟨p, hp, e⟩ := h1
      exact ⟨ng p, List.mem_map.mpr ⟨p, hp, rfl⟩, by show -p.2.2 = -m; rw [e]⟩
    · obtain ⟨q, hq, rfl⟩ := List.mem_map.mp hp
      have := h2 q hq
      show -m ≤ -q.2.2
      omega
  have e : (grF none l).map (- ·) = leF none (l.map ng) := e
  rw [this] at e
  cases hg : grF none l with
  | none => rw [hg] at e; cases e
  | some g =>
    rw [hg] at e
    have : -g = -m := Option.some.inj e
    congr 1
    omega
theorem leF_ex {l : List Pt} {m : Int} (h : leF none l = some m) : (∃ p ∈ l, p.2.2 = m) ∧ ∀ p ∈ l, m ≤ p.2.2 := by
  cases l with
  | nil => cases h
  | cons a l =>
    obtain ⟨m', e1, e2, e3, e4⟩ := leF_spec l a.2.2
    have : leF (some a.2.2) l = some m := h
    rw [e1] at this
    cases this
    refine ⟨?_, fun p hp => ?_⟩
    · rcases e4 with e4 | ⟨q, hq, e4⟩
      · exact ⟨a, List.mem_cons_self .., e4.symm⟩
      · exact ⟨q, List.mem_cons_of_mem _ hq, e4⟩
    · rcases List.mem_cons.mp hp with e | hp
      · rw [e]; exact e2
      · exact e3 p hp
theorem grF_ex {l : List Pt} {m : Int} (h : grF none l = some m) : (∃ p ∈ l, p.2.2 = m) ∧ ∀ p ∈ l, p.2.2 ≤ m := by
  have e : (grF none l).map (- ·) = leF none (l.map ng) := grF_ng l none
  rw [h] at e
  obtain ⟨⟨p, hp, e1⟩, e2⟩ := leF_ex e.symm
  obtain ⟨q, hq, rfl⟩ := List.mem_map.mp hp
  refine ⟨⟨q, hq, ?_⟩, fun p hp => ?_⟩
  · have : -q.2.2 = -m := e1
    omega
  · have : -m ≤ -p.2.2 := e2 (ng p) (List.mem_map.mpr ⟨p, hp, rfl⟩)
    omega
theorem leF_some {l : List Pt} (h : l ≠ []) : ∃ m, leF none l = some m := by
  cases l with
  | nil => exact absurd rfl h
  | cons a l =>
    obtain ⟨m, e, _⟩ := leF_spec l a.2.2
    exact ⟨m, e⟩
theorem grF_some {l : List Pt} (h : l ≠ []) : ∃ m, grF none l = some m := by
  cases hg : grF none l with
  | some m => exact ⟨m, rfl⟩
  | none =>
    have e : (grF none l).map (- ·) = leF none (l.map ng) := grF_ng l none
    obtain ⟨m, hm⟩ := leF_some (l := l.map ng) (by simpa using h)
    rw [hg, hm] at e
    cases e
theorem gcd_step {a b : Int} (ha : 0 ≤ a) (hb : 0 < b) : gcdI b (a % b) = gcdI a b := by
  unfold gcdI
  rw [Int.natAbs_emod_of_nonneg ha, Nat.gcd_comm a.natAbs b.natAbs, Nat.gcd_rec b.natAbs a.natAbs, Nat.gcd_comm]
theorem gcd_abs {a b : Int} : gcdI (-a) b = gcdI a b := by unfold gcdI; rw [Int.natAbs_neg]
section
variable {μ : Mu} {R : Sl → Mu → Prop} {w : D} {Δ : DE}
/-! the worth -/
abbrev WF (w : D) (k : Str) (lo hi : Int) (s4 s5 s6 s7 s8 s9 s10 s11 : Sl) (μ : Mu) : S := ⟨[.d w, .d (.str k), .d (.int lo), .d (.int hi), s4, s5, s6, s7, s8, s9, s10, s11], μ⟩
end
end K20
namespace K20
open PySem PySem.Spec PyProof.Rows L2 DL
variable [Wd]
theorem h2' : (2 : Nat) ≤ sizeLine := by decide
theorem h3 : (3 : Nat) < sizeLine := by decide
theorem h3' : (3 : Nat) ≤ sizeLine := by decide
theorem h4' : (4 : Nat) ≤ sizeLine := by decide
theorem atD_nat {α : Type} (xs : List α) (i : Nat) : atD xs (i : Int) = xs[i]? := rfl
theorem atD_last {α : Type} (xs : List α) : atD xs (-1) = xs.getLast? := by
  cases xs with
  | nil => rfl
  | cons x l =>
    rw [List.getLast?_eq_getElem?]
    show (if 0 < l.length + 1 then (x :: l)[l.length - 0]? else none) = _
    rw [if_pos (Nat.succ_pos _)]
    rfl
theorem rng_nat (n : Nat) : rng 0 n = (List.range' 0 n).map fun i : Nat => DL.D.int (i : Int) := by
  unfold rng
  rw [List.range_eq_range']
  apply List.map_congr_left
  intro i _
  rw [Int.zero_add]
theorem rng_from (a : Int) (h : 0 ≤ a) (n : Nat) : rng a n = (List.range' a.toNat n).map fun i : Nat => DL.D.int (i : Int) := by
  unfold rng
  rw [List.range'_eq_map_range, List.map_map]
  refine List.map_congr_left fun i _ => ?_
  show DL.D.int (a + i) = DL.D.int ((a.toNat + i : Nat) : Int)
  rw [show a + (i : Int) = ((a.toNat + i : Nat) : Int) from by omega]
theorem xIn2 {x a b : Str} {f : Bool → Bool} {R : Sl → Prop} : oIn f (.str x) (.lst [.str a, .str b]) R = R (.d (.bl (f (decide (x = a ∨ x = b))))) := by
  rw [show [DL.D.str a, DL.D.str b] = [a, b].map DL.D.str from rfl, xInS_l]
  simp
/-- what a call answers -/
def Ans (F : FD) (ds : List DL.D) (b : DL.D) : Prop := ∀ (μ : Mu) (R : Sl → Mu → Prop), R (.d b) μ → F ds μ R
theorem Ans.go {F : FD} {ds : List DL.D} {b : DL.D} {μ : Mu} {R : Sl → Mu → Prop} (a : Ans F ds b) (h : R (.d b) μ) : F ds μ R := a μ R h
theorem Ans.of {F : FD} {ds : List DL.D} {a b : Bool} (h : Ans F ds (.bl a)) (e : a = b) : Ans F ds (.bl b) := e ▸ h
/-! rules -/
def meas : List Str := ["count", "first", "greatest", "last", "least", "squares", "sum"]
theorem meas_kinds {m : Str} (h : m ∈ meas) : m ∈ kinds := by
  simp only [meas, List.mem_cons, List.not_mem_nil, or_false] at h
  rcases h with rfl | rfl | rfl | rfl | rfl | rfl | rfl <;> simp [kinds]
/-- a keep: grain, measures, age -/
structure Kp where
  g : Int
  ms : List Str
  age : Option Int
def Kp.D (k : Kp) : DL.D := .tup [.int k.g, .tup (k.ms.map DL.D.str), vD k.age]
structure KpOk (k : Kp) : Prop where
  g1 : 1 ≤ k.g
  g2 : k.g ≤ 1000
  ms : ∀ m ∈ k.ms, m ∈ meas
  asc : k.ms.Pairwise fun a b => slt a b = true
  ne : k.ms ≠ []
  fw : k.ms.length ≤ 10
  a0 : ∀ a, k.age = some a → 0 ≤ a ∧ a ≤ 10000
def Kp.first (k : Kp) (now : Int) : Int := match k.age with
  | none => 0
  | some a => max2I 0 ((now - a) / k.g)
structure Rl where
  raw : Option Int
  ks : List Kp
def Rl.D (r : Rl) : DL.D := .tup [vD r.raw, .tup (r.ks.map Kp.D)]
structure RlOk (r : Rl) : Prop where
  ks : ∀ k ∈ r.ks, KpOk k
  few : r.ks.length ≤ 6
  a0 : ∀ a, r.raw = some a → 0 ≤ a ∧ a ≤ 10000
section
variable {μ : Mu} {R : Sl → Mu → Prop} {w : DL.D} {Δ : DE}
theorem an_within {i lo hi : Int} : Ans fn_is_int_within [.int i, .int lo, .int hi] (.bl (decide (lo ≤ i) && decide (i ≤ hi))) := fun μ R h => by
  show Φ_is_int_within _ ⟨[.d (.int i), .d (.int lo), .d (.int hi)], μ⟩
  simp! only [Φ_is_int_within]
  refine is_int_ok ?_
  simp! only []
  by_cases e : lo ≤ i
  · simp! only [e]
    simpa [e] using h
  · simp! only [e]
    simpa [e] using h
theorem is_age_ok {a : Option Int} (h0 : ∀ i, a = some i → 0 ≤ i ∧ i ≤ 10000) (h : R (.d (.bl true)) μ) : fn_is_age [vD a] μ R := by
  show Φ_is_age _ ⟨[.d (vD a)], μ⟩
  cases a with
  | none =>
    simp! only [Φ_is_age, vD]
    exact h
  | some i =>
    obtain ⟨a1, a2⟩ := h0 i rfl
    simp! only [Φ_is_age, vD]
    refine (an_within.of (b := true) (by simp [a1, a2])).go ?_
    simp! only []
    exact h
theorem is_measure_ok {m : Str} (hm : m ∈ meas) (h : R (.d (.bl true)) μ) : fn_is_measure [.str m] μ R := by
  show Φ_is_measure _ ⟨[.d (.str m)], μ⟩
  simp! only [Φ_is_measure]
  refine ⟨cIn_strs (l := meas), ?_⟩
  have e := any_strs hm
  simp only [meas, List.map_cons, List.map_nil] at e
  rw [e]
  exact h
theorem row_loop : ∀ (ms : List Str) (a : Str) (x : Sl), (∀ m ∈ ms, m ∈ meas) → (∀ m ∈ ms, slt a m = true) → (ms.Pairwise fun a b => slt a b = true) → (∀ x y, Δ.nx ⟨[.d w, x, y], μ⟩) →
    forL (gN 2) B_is_row_of_measures_0 Δ (ms.map DL.D.str) ⟨[.d w, .d (.str a), x], μ⟩
  | [], a, x, _, _, _, h => h _ _
  | m :: ms, a, x, h1, h2, h3, h => by
    have ih := row_loop ms m (.d (.str m)) (fun z hz => h1 z (List.mem_cons_of_mem _ hz)) (List.pairwise_cons.mp h3).1 (List.pairwise_cons.mp h3).2 h
    have hl := h2 m (List.mem_cons_self ..)
    simp! only [List.map_cons, forL_cons, B_is_row_of_measures_0_eq]
    refine is_measure_ok (h1 m (List.mem_cons_self ..)) ?_
    simp! only [hl]
    exact ih
theorem meas_pos {m : Str} (h : m ∈ meas) : slt "" m = true := by
  simp only [meas, List.mem_cons, List.not_mem_nil, or_false] at h
  rcases h with rfl | rfl | rfl | rfl | rfl | rfl | rfl <;> decide +kernel
theorem is_row_ok {k : Kp} (o : KpOk k) (h : R (.d (.bl true)) μ) : fn_is_row_of_measures [.tup (k.ms.map DL.D.str)] μ R := by
  show Φ_is_row_of_measures _ ⟨[.d (.tup (k.ms.map DL.D.str)), .no, .no], μ⟩
  have hne : (k.ms.map DL.D.str).isEmpty = false := by
    cases e : k.ms with
    | nil => exact absurd e o.ne
    | cons a l => rfl
  simp! only [Φ_is_row_of_measures, hne]
  refine row_loop k.ms _ _ o.ms (fun m hm => meas_pos (o.ms m hm)) o.asc fun x y => ?_
  simp! only []
  exact h
theorem is_grain_ok {g : Int} (h1 : 1 ≤ g) (h2 : g ≤ 1000) (h : R (.d (.bl true)) μ) : fn_is_grain [.int g] μ R := by
  show Φ_is_grain _ ⟨[.d (.int g)], μ⟩
  simp! only [Φ_is_grain]
  refine (an_within.of (b := true) (by simp [h1, h2])).go ?_
  simp! only []
  exact h
theorem is_keep_ok {k : Kp} (o : KpOk k) (h : R (.d (.bl true)) μ) : fn_is_keep [k.D] μ R := by
  show Φ_is_keep _ ⟨[.d k.D], μ⟩
  unfold Kp.D
  simp! only [Φ_is_keep]
  refine is_tuple_of_ok rfl ?_
  simp! only []
  refine is_grain_ok o.g1 o.g2 ?_
  simp! only []
  refine is_row_ok o ?_
  simp! only []
  refine is_age_ok o.a0 ?_
  simp! only []
  exact h
theorem keeps_loop : ∀ (ks : List Kp) (x : Sl), (∀ k ∈ ks, KpOk k) → (∀ x, Δ.nx ⟨[.d w, x], μ⟩) → forL (gN 1) B_is_row_of_keeps_0 Δ (ks.map Kp.D) ⟨[.d w, x], μ⟩
  | [], x, _, h => h x
  | k :: ks, x, ho, h => by
    have ih := keeps_loop ks (.d k.D) (fun z hz => ho z (List.mem_cons_of_mem _ hz)) h
    simp! only [List.map_cons, forL_cons, B_is_row_of_keeps_0_eq]
    refine is_keep_ok (ho k (List.mem_cons_self ..)) ?_
    simp! only []
    exact ih
theorem is_rule_ok {r : Rl} (o : RlOk r) (h : R (.d (.bl true)) μ) : fn_is_rule [r.D] μ R := by
  have keeps : ∀ {R : Sl → Mu → Prop}, R (.d (.bl true)) μ → fn_is_row_of_keeps [.tup (r.ks.map Kp.D)] μ R := fun {R} h => by
    show Φ_is_row_of_keeps _ ⟨[.d (.tup (r.ks.map Kp.D)), .no], μ⟩
    have hl : ¬ (6 : Int) < (r.ks.length : Nat) := by have := o.few; omega
    simp! only [Φ_is_row_of_keeps, List.length_map, hl]
    refine keeps_loop r.ks _ o.ks fun x => ?_
    simp! only []
    exact h
  show Φ_is_rule _ ⟨[.d r.D], μ⟩
  unfold Rl.D
  simp! only [Φ_is_rule]
  refine is_tuple_of_ok rfl ?_
  simp! only []
  refine is_age_ok o.a0 ?_
  simp! only []
  refine keeps ?_
  simp! only []
  exact h
theorem check_rule_ok {r : Rl} (o : RlOk r) (h : R (.d .non) μ) : fn_check_rule [r.D] μ R := by
  show Φ_check_rule _ ⟨[.d r.D], μ⟩
  simp! only [Φ_check_rule]
  refine is_rule_ok o ?_
  simp! only []
  exact h
theorem check_moment_ok {now : Int} (h0 : 0 ≤ now) (h1 : now ≤ 100000) (h : R (.d .non) μ) : fn_check_moment [.int now] μ R := by
  show Φ_check_moment _ ⟨[.d (.int now)], μ⟩
  have m : ∀ {R : Sl → Mu → Prop}, R (.d (.bl true)) μ → fn_is_moment [.int now] μ R := fun {R} h => by
    show Φ_is_moment _ ⟨[.d (.int now)], μ⟩
    simp! only [Φ_is_moment]
    refine (an_within.of (b := true) (by simp [h0, h1])).go ?_
    simp! only []
    exact h
  simp! only [Φ_check_moment]
  refine m ?_
  simp! only []
  exact h
/-! the cells -/
theorem g_div {g : Int} (h1 : 1 ≤ g) (h2 : g ≤ 1000) (i : Int) : cDiv i g := ⟨by omega, .inl (by omega)⟩
theorem first_cell_ok {k : Kp} (o : KpOk k) {now : Int} (h : R (.d (.int (k.first now))) μ) : fn_first_cell [k.D, .int now] μ R := by
  show Φ_first_cell _ ⟨[.d k.D, .d (.int now), .no, .no, .no], μ⟩
  unfold Kp.D Kp.first at *
  cases ha : k.age with
  | none =>
    rw [ha] at h
    simp! only [Φ_first_cell, vD]
    exact h
  | some a =>
    rw [ha] at h
    simp! only [Φ_first_cell, vD]
    exact ⟨g_div o.g1 o.g2 _, h⟩
theorem last_cell_ok {k : Kp} (o : KpOk k) {now : Int} (h : R (.d (.int (now / k.g))) μ) : fn_last_cell [k.D, .int now] μ R := by
  show Φ_last_cell _ ⟨[.d k.D, .d (.int now)], μ⟩
  unfold Kp.D
  simp! only [Φ_last_cell]
  exact ⟨g_div o.g1 o.g2 _, h⟩
def Kp.cells (k : Kp) (now : Int) : List Nat := List.range' (k.first now).toNat (now / k.g + 1 - k.first now).toNat
theorem div_le {now g : Int} (h0 : 0 ≤ now) (h1 : 1 ≤ g) : 0 ≤ now / g ∧ now / g ≤ now := by
  refine ⟨Int.ediv_nonneg h0 (by omega), ?_⟩
  exact Int.ediv_le_self _ h0
theorem first_le {k : Kp} (o : KpOk k) {now : Int} (h0 : 0 ≤ now) : 0 ≤ k.first now ∧ k.first now ≤ now / k.g := by
  unfold Kp.first
  cases ha : k.age with
  | none => exact ⟨Int.le_refl _, (div_le h0 o.g1).1⟩
  | some a =>
    have := o.a0 a ha
    have d1 := (div_le h0 o.g1).1
    have d2 : (now - a) / k.g ≤ now / k.g := Int.ediv_le_ediv (by have := o.g1; omega) (by omega)
    show 0 ≤ max2I 0 ((now - a) / k.g) ∧ max2I 0 ((now - a) / k.g) ≤ now / k.g
    unfold max2I
    split <;> omega
theorem cell_numbers_ok {k : Kp} (o : KpOk k) {now : Int} (h0 : 0 ≤ now) (h1 : now ≤ 100000) (h : R (.l ((k.cells now).map fun i : Nat => DL.D.int i)) μ) : fn_cell_numbers [k.D, .int now] μ R := by
  show Φ_cell_numbers _ ⟨[.d k.D, .d (.int now)], μ⟩
  obtain ⟨f0, f1⟩ := first_le o h0
  obtain ⟨d0, d1⟩ := div_le h0 o.g1
  simp! only [Φ_cell_numbers, zSetd, zset0, zset1, zkeyi, zkeys, zTupM, ztupM, zmlk, zDcK, zGet, zisDic, zgetk, zLR, zlrk, zDisp, zdsp0, zdspC, zTPop, ztpop, zEnT, zenukT]
  refine first_cell_ok o ?_
  simp! only [zSetd, zset0, zset1, zkeyi, zkeys, zTupM, ztupM, zmlk, zDcK, zGet, zisDic, zgetk, zLR, zlrk, zDisp, zdsp0, zdspC, zTPop, ztpop, zEnT, zenukT]
  refine last_cell_ok o ?_
  simp! only [zSetd, zset0, zset1, zkeyi, zkeys, zTupM, ztupM, zmlk, zDcK, zGet, zisDic, zgetk, zLR, zlrk, zDisp, zdsp0, zdspC, zTPop, ztpop, zEnT, zenukT]
  refine ⟨RgOk.of_le f0 (by omega) (by omega) (by omega), ?_⟩
  rw [rng_from _ f0]
  exact h
/-- all cells -/
def cellsL (now : Int) : Nat → List Kp → List (Nat × Nat)
  | _, [] => []
  | i, k :: ks => (k.cells now).map (fun c => (i, c)) ++ cellsL now (i + 1) ks
def cD (p : Nat × Nat) : DL.D := .tup [.int p.1, .int p.2]
theorem kcells_len {k : Kp} (o : KpOk k) {now : Int} (h0 : 0 ≤ now) (h1 : now ≤ 100000) : (k.cells now).length ≤ 100001 := by
  obtain ⟨f0, f1⟩ := first_le o h0
  obtain ⟨d0, d1⟩ := div_le h0 o.g1
  unfold Kp.cells
  rw [List.length_range']
  omega
theorem cl_in {now : Int} {r s5 s4 : DL.D} {i : Nat} : ∀ (cs : List Nat) (acc : List (Nat × Nat)) (x : Sl), acc.length + cs.length < 1000000 → (∀ x, Δ.nx ⟨[.d r, .d (.int now), .l ((acc ++ cs.map fun c => (i, c)).map cD), .d (.int i), .d s4, x], μ⟩) →
    forL (gN 5) B_cells_0 Δ (cs.map fun c : Nat => DL.D.int c) ⟨[.d r, .d (.int now), .l (acc.map cD), .d (.int i), .d s4, x], μ⟩
  | [], acc, x, _, h => by
    have := h x
    simp only [List.map_nil, List.append_nil] at this
    exact this
  | c :: cs, acc, x, hl, h => by
    have big : 1000000 < sizeLine := by decide
    simp only [List.length_cons] at hl
    simp! only [List.map_cons, forL_cons, B_cells_0_eq, List.length_map]
    have ih := cl_in (s5 := s5) cs (acc ++ [(i, c)]) (.d (.int c)) (by simp; omega) (fun x => by rw [List.append_assoc]; exact h x)
    rw [List.map_append] at ih
    exact ⟨h2', by omega, ih⟩
theorem cl_loop {now : Int} (h0 : 0 ≤ now) (h1 : now ≤ 100000) {r : DL.D} : ∀ (ks : List Kp) (i : Nat) (acc : List (Nat × Nat)) (x y z : Sl), (∀ k ∈ ks, KpOk k) → acc.length + ks.length * 100001 < 1000000 → (∀ x y z, Δ.nx ⟨[.d r, .d (.int now), .l ((acc ++ cellsL now i ks).map cD), x, y, z], μ⟩) →
    forL (gT 2 (gsCons (gN 3) (gsCons (gN 4) (gsNil)))) B_cells_1 Δ (enumD i (ks.map Kp.D)) ⟨[.d r, .d (.int now), .l (acc.map cD), x, y, z], μ⟩
  | [], i, acc, x, y, z, _, _, h => by
    have := h x y z
    simp only [cellsL, List.append_nil] at this
    exact this
  | k :: ks, i, acc, x, y, z, ho, hl, h => by
    have o := ho k (List.mem_cons_self ..)
    have kl := kcells_len o h0 h1
    simp only [List.length_cons] at hl
    simp! only [List.map_cons, enumD, forL_cons, B_cells_1_eq]
    refine cell_numbers_ok o h0 h1 ?_
    simp! only []
    refine cl_in (s5 := .non) (k.cells now) acc _ (by omega) fun z => ?_
    refine cl_loop h0 h1 ks (i + 1) _ _ _ _ (fun q hq => ho q (List.mem_cons_of_mem _ hq)) (by simp; omega) fun x y z => ?_
    rw [List.append_assoc]
    exact h x y z
theorem cells_ok {r : Rl} (o : RlOk r) {now : Int} (h0 : 0 ≤ now) (h1 : now ≤ 100000) (h : R (.d (.tup ((cellsL now 0 r.ks).map cD))) μ) : fn_cells [r.D, .int now] μ R := by
  show Φ_cells _ ⟨[.d r.D, .d (.int now), .no, .no, .no, .no], μ⟩
  have eD : r.D = .tup [vD r.raw, .tup (r.ks.map Kp.D)] := rfl
  simp! only [Φ_cells]
  refine check_rule_ok o ?_
  refine check_moment_ok h0 h1 ?_
  rw [eD]
  simp! only [zSetd, zset0, zset1, zkeyi, zkeys, zTupM, ztupM, zmlk, zDcK, zGet, zisDic, zgetk, zLR, zlrk, zDisp, zdsp0, zdspC, zTPop, ztpop, zEnT, zenukT]
  refine ⟨Nat.zero_le _, ?_⟩
  refine cl_loop h0 h1 r.ks 0 [] _ _ _ o.ks (by have := o.few; simp; omega) fun x y z => ?_
  simp! only []
  exact h
end
end K20
namespace K20
open PySem PySem.Spec PyProof.Rows L2 DL
variable [Wd]
/-! points by cell -/
abbrev Cr := Int × Addr × List Pt
def inC (g c : Int) (p : Pt) : Bool := decide (p.1 / g = c)
structure CR (g : Int) (done : List Pt) (rows : List Cr) (μ : Mu) : Prop where
  nd : (rows.map (·.1)).Nodup
  na : (rows.map (·.2.1)).Nodup
  mu : ∀ r ∈ rows, μ r.2.1 = some (.sl (.l (r.2.2.map pD)))
  ls : ∀ r ∈ rows, r.2.2 = done.filter (inC g r.1)
  cov : ∀ p ∈ done, p.1 / g ∈ rows.map (·.1)
theorem nodup_inj {α β : Type} {f : α → β} : ∀ {l : List α}, (l.map f).Nodup → ∀ {a b : α}, a ∈ l → b ∈ l → f a = f b → a = b
  | x :: l, h, a, b, ha, hb, e => by
    rw [List.map_cons, List.nodup_cons] at h
    rcases List.mem_cons.mp ha with ea | ha'
    · rcases List.mem_cons.mp hb with eb | hb'
      · rw [ea, eb]
      · exact absurd (ea ▸ e ▸ List.mem_map_of_mem hb') h.1
    · rcases List.mem_cons.mp hb with eb | hb'
      · exact absurd (eb ▸ e ▸ List.mem_map_of_mem ha') h.1
      · exact nodup_inj h.2 ha' hb' e
def crK (rows : List Cr) : List Key := rows.map fun r => .inl r.1
def crD (rows : List Cr) : List DL.D := rows.map fun r => .ref r.2.1
theorem cr_look : ∀ (rows : List Cr) (c : Int), dlook (crK rows) (crD rows) (.inl c) = (rows.find? fun r => decide (r.1 = c)).map fun r => .ref r.2.1
  | [], _ => rfl
  | r :: rows, c => by
    show (if (Sum.inl r.1 : Key) = .inl c then some (DL.D.ref r.2.1) else dlook (crK rows) (crD rows) (.inl c)) = _
    by_cases e : r.1 = c
    · rw [if_pos (by rw [e]), List.find?_cons_of_pos (by simpa using e)]; rfl
    · rw [if_neg (fun z => e (Sum.inl.inj z)), List.find?_cons_of_neg (by simpa using e), cr_look rows c]
theorem cr_has (rows : List Cr) (c : Int) (h : c ∉ rows.map (·.1)) : dhas (crK rows) (.inl c) = false := by
  unfold dhas crK
  rw [List.any_map]
  rw [List.any_eq_false]
  intro r hr z
  have z : (Sum.inl r.1 : Key) = .inl c := of_decide_eq_true z
  exact h (List.mem_map.mpr ⟨r, hr, Sum.inl.inj z⟩)
theorem cr_find {rows : List Cr} {c : Int} (h : c ∈ rows.map (·.1)) : ∃ r ∈ rows, (rows.find? fun r => decide (r.1 = c)) = some r ∧ r.1 = c := by
  obtain ⟨q, hq, e⟩ := List.mem_map.mp h
  cases hf : rows.find? fun r => decide (r.1 = c) with
  | none => exact absurd e (by simpa using List.find?_eq_none.mp hf q hq)
  | some r => exact ⟨r, List.mem_of_find?_eq_some hf, rfl, by simpa using List.find?_some hf⟩
theorem cr_none {rows : List Cr} {c : Int} (h : c ∉ rows.map (·.1)) : (rows.find? fun r => decide (r.1 = c)) = none := by
  rw [List.find?_eq_none]
  intro r hr z
  exact h (List.mem_map.mpr ⟨r, hr, by simpa using z⟩)
theorem cr_old {g : Int} {done : List Pt} {rows : List Cr} {μ : Mu} (h : CR g done rows μ) {p : Pt} {r : Cr} (hr : r ∈ rows) (e : p.1 / g = r.1) :
    CR g (done ++ [p]) (rows.map fun q => if q.1 = r.1 then (q.1, q.2.1, q.2.2 ++ [p]) else q) (updM μ r.2.1 (.sl (.l (r.2.2.map pD ++ [pD p])))) := by
  have k1 : (rows.map fun q => if q.1 = r.1 then (q.1, q.2.1, q.2.2 ++ [p]) else q).map (·.1) = rows.map (·.1) := by
    rw [List.map_map]; refine List.map_congr_left fun q _ => ?_
    show (if q.1 = r.1 then (q.1, q.2.1, q.2.2 ++ [p]) else q).1 = q.1
    split <;> rfl
  have k2 : (rows.map fun q => if q.1 = r.1 then (q.1, q.2.1, q.2.2 ++ [p]) else q).map (·.2.1) = rows.map (·.2.1) := by
    rw [List.map_map]; refine List.map_congr_left fun q _ => ?_
    show (if q.1 = r.1 then (q.1, q.2.1, q.2.2 ++ [p]) else q).2.1 = q.2.1
    split <;> rfl
  refine ⟨by rw [k1]; exact h.nd, by rw [k2]; exact h.na, fun q hq => ?_, fun q hq => ?_, fun x hx => ?_⟩
  · obtain ⟨q', hq', rfl⟩ := List.mem_map.mp hq
    by_cases z : q'.1 = r.1
    · have := nodup_inj h.nd hq' hr z
      subst this
      simp only [if_pos]
      rw [updM_same]; simp
    · simp only [if_neg z]
      rw [updM_ne (fun y => z (congrArg _ (nodup_inj h.na hq' hr y)))]
      exact h.mu q' hq'
  · obtain ⟨q', hq', rfl⟩ := List.mem_map.mp hq
    have l := h.ls q' hq'
    by_cases z : q'.1 = r.1
    · simp only [if_pos z]
      rw [List.filter_append, ← l, List.filter_cons_of_pos (by simp [inC, e, z])]; rfl
    · simp only [if_neg z]
      rw [List.filter_append, ← l, List.filter_cons_of_neg (by simp [inC, e, Ne.symm z])]; simp
  · rw [k1]
    rcases List.mem_append.mp hx with hx | hx
    · exact h.cov x hx
    · rw [List.mem_singleton.mp hx, e]; exact List.mem_map_of_mem hr
theorem cr_new {g : Int} {done : List Pt} {rows : List Cr} {μ : Mu} (h : CR g done rows μ) {p : Pt} {a : Addr} (ha : μ a = none) (e : p.1 / g ∉ rows.map (·.1)) :
    CR g (done ++ [p]) (rows ++ [(p.1 / g, a, [p])]) (updM (updM μ a (.sl (.l []))) a (.sl (.l [pD p]))) := by
  have hna : ∀ r ∈ rows, r.2.1 ≠ a := fun r hr z => by have := h.mu r hr; rw [z, ha] at this; cases this
  refine ⟨?_, ?_, fun q hq => ?_, fun q hq => ?_, fun x hx => ?_⟩
  · rw [List.map_append, List.nodup_append]
    exact ⟨h.nd, by simp, fun x hx y hy z => by simp at hy; subst hy; subst z; exact e hx⟩
  · rw [List.map_append, List.nodup_append]
    refine ⟨h.na, by simp, fun x hx y hy z => ?_⟩
    simp at hy; subst hy; subst z
    obtain ⟨r, hr, z⟩ := List.mem_map.mp hx
    exact hna r hr z
  · rcases List.mem_append.mp hq with hq | hq
    · rw [updM_ne (hna q hq), updM_ne (hna q hq)]; exact h.mu q hq
    · rw [List.mem_singleton.mp hq]; rw [updM_same]; rfl
  · rcases List.mem_append.mp hq with hq | hq
    · have z : ¬ (p.1 / g = q.1) := fun z => e (z ▸ List.mem_map_of_mem hq)
      rw [List.filter_append, ← h.ls q hq, List.filter_cons_of_neg (by simp [inC, z])]; simp
    · rw [List.mem_singleton.mp hq]
      have : done.filter (inC g (p.1 / g)) = [] := by
        rw [List.filter_eq_nil_iff]
        intro x hx z
        have z : x.1 / g = p.1 / g := by simpa [inC] using z
        exact e (z ▸ h.cov x hx)
      rw [List.filter_append, this, List.filter_cons_of_pos (by simp [inC])]; rfl
  · rw [List.map_append, List.mem_append]
    rcases List.mem_append.mp hx with hx | hx
    · exact .inl (h.cov x hx)
    · rw [List.mem_singleton.mp hx]; exact .inr (by simp)
theorem setd_old {i : Nat} {φ : PhiE} {Δ : DE} {x : Key} {ks : List Key} {ds : List DL.D} {s : S} {a : Addr} {xs : List DL.D} (h : dlook ks ds x = some (.ref a)) (hm : s.μ a = some (.sl (.l xs))) (q : appM a φ Δ s) : setd1 i φ Δ x ks ds s := by
  unfold setd1
  rw [h]
  exact ⟨⟨xs, hm⟩, q⟩
theorem setd_new {i : Nat} {φ : PhiE} {Δ : DE} {x : Key} {ks : List Key} {ds : List DL.D} {s : S} (h : dlook ks ds x = none) (h2 : dhas ks x = false) (q : ∀ a, s.μ a = none → appM a φ Δ ⟨put s.ρ i (.k (ks ++ [x]) (ds ++ [.ref a])), updM s.μ a (.sl (.l []))⟩) : setd1 i φ Δ x ks ds s := by
  unfold setd1
  rw [h]
  exact ⟨h2, q⟩
theorem appM_at {j : Nat} {Δ : DE} {ρ : List Sl} {μ : Mu} {a : Addr} {d : DL.D} {xs : List DL.D} (h : get ρ j = .d d) (hm : μ a = some (.sl (.l xs))) (hl : xs.length < sizeLine) (q : Δ.nx ⟨ρ, updM μ a (.sl (.l (xs ++ [d])))⟩) : appM a (eV j) Δ ⟨ρ, μ⟩ := by
  unfold appM
  rw [zV, h]
  show (match μ a with
    | some (.sl (.l xs)) => xs.length < sizeLine ∧ Δ.nx ⟨ρ, updM μ a (.sl (.l (xs ++ [d])))⟩
    | _ => False)
  rw [hm]
  exact ⟨hl, q⟩
section
variable {μ : Mu} {R : Sl → Mu → Prop} {w : DL.D} {Δ : DE}
theorem crw_len {g : Int} {done : List Pt} {rows : List Cr} (h : CR g done rows μ) : ∀ r ∈ rows, r.2.2.length ≤ done.length := fun r hr => by rw [h.ls r hr]; exact List.length_filter_le ..
theorem by_loop {k : Kp} (o : KpOk k) {W : DL.D} {x4 : Sl} : ∀ (ps done : List Pt) (rows : List Cr) (x : Sl) (μ : Mu), CR k.g done rows μ → rows.length ≤ done.length → done.length + ps.length < 1000000 →
    (∀ rows x μ, CR k.g (done ++ ps) rows μ → rows.length ≤ (done ++ ps).length → Δ.nx ⟨[.d k.D, .d W, .k (crK rows) (crD rows), x, x4], μ⟩) →
    forL (gN 3) B_points_by_cell_0 Δ (ps.map pD) ⟨[.d k.D, .d W, .k (crK rows) (crD rows), x, x4], μ⟩
  | [], done, rows, x, μ, cr, l1, l2, h => by
    rw [List.append_nil] at h
    exact h rows x μ cr l1
  | p :: ps, done, rows, x, μ, cr, l1, l2, h => by
    have big : 1000000 < sizeLine := by decide
    simp only [List.length_cons] at l2
    have hk : k.D = .tup [.int k.g, .tup (k.ms.map DL.D.str), vD k.age] := rfl
    simp! only [List.map_cons, forL_cons, B_points_by_cell_0_eq, zSetd, zset0, zset1, zkeyi, zkeys, zTupM, ztupM, zmlk, zDcK, zGet, zisDic, zgetk, zLR, zlrk, zDisp, zdsp0, zdspC, zTPop, ztpop, zEnT, zenukT]
    rw [hk]
    simp! only [zSetd, zset0, zset1, zkeyi, zkeys, zTupM, ztupM, zmlk, zDcK, zGet, zisDic, zgetk, zLR, zlrk, zDisp, zdsp0, zdspC, zTPop, ztpop, zEnT, zenukT, pD]
    refine ⟨g_div o.g1 o.g2 _, by rw [show (crK rows).length = rows.length from by simp [crK]]; omega, ?_⟩
    have ih := by_loop o (W := W) (x4 := x4) ps (done ++ [p])
    by_cases e : p.1 / k.g ∈ rows.map (·.1)
    · obtain ⟨r, hr, f, er⟩ := cr_find e
      have hm := cr.mu r hr
      refine setd_old (a := r.2.1) (by rw [cr_look, f]; rfl) hm ?_
      refine appM_at (d := pD p) rfl hm (by rw [List.length_map]; have := crw_len cr r hr; omega) ?_
      have c1 := cr_old cr hr er.symm
      have e1 : crK (rows.map fun q => if q.1 = r.1 then (q.1, q.2.1, q.2.2 ++ [p]) else q) = crK rows := by
        unfold crK; rw [List.map_map]; refine List.map_congr_left fun q _ => ?_
        show Sum.inl (if q.1 = r.1 then (q.1, q.2.1, q.2.2 ++ [p]) else q).1 = Sum.inl q.1
        split <;> rfl
      have e2 : crD (rows.map fun q => if q.1 = r.1 then (q.1, q.2.1, q.2.2 ++ [p]) else q) = crD rows := by
        unfold crD; rw [List.map_map]; refine List.map_congr_left fun q _ => ?_
        show DL.D.ref (if q.1 = r.1 then (q.1, q.2.1, q.2.2 ++ [p]) else q).2.1 = DL.D.ref q.2.1
        split <;> rfl
      have := ih (rows.map fun q => if q.1 = r.1 then (q.1, q.2.1, q.2.2 ++ [p]) else q) (.d (pD p)) _ c1 (by simp; omega) (by simp; omega) (by simpa [List.append_assoc] using h)
      rw [e1, e2, hk] at this
      exact this
    · refine setd_new (by rw [cr_look, cr_none e]; rfl) (cr_has rows _ e) fun a ha => ?_
      refine appM_at (d := pD p) (xs := []) rfl updM_same (by show 0 < sizeLine; omega) ?_
      have := ih (rows ++ [(p.1 / k.g, a, [p])]) (.d (pD p)) _ (cr_new cr ha e) (by simp; omega) (by simp; omega) (by simpa [List.append_assoc] using h)
      unfold crK crD at this ⊢
      rw [List.map_append, List.map_append, hk] at this
      exact this
theorem kput_newK {ks : List Key} {x : Key} (h : dhas ks x = false) : kputK ks x = ks ++ [x] := by
  unfold kputK
  rw [h]; rfl
theorem kput_newD {ks : List Key} {ds : List DL.D} {x : Key} {y : DL.D} (h : dhas ks x = false) : kputD ks ds x y = ds ++ [y] := by
  unfold kputD
  rw [h]; rfl
def crT (rows : List Cr) : List DL.D := rows.map fun r => .tup (r.2.2.map pD)
theorem crT_look : ∀ (rows : List Cr) (c : Int), dlook (crK rows) (crT rows) (.inl c) = (rows.find? fun r => decide (r.1 = c)).map fun r => .tup (r.2.2.map pD)
  | [], _ => rfl
  | r :: rows, c => by
    show (if (Sum.inl r.1 : Key) = .inl c then some (DL.D.tup (r.2.2.map pD)) else dlook (crK rows) (crT rows) (.inl c)) = _
    by_cases e : r.1 = c
    · rw [if_pos (by rw [e]), List.find?_cons_of_pos (by simpa using e)]; rfl
    · rw [if_neg (fun z => e (Sum.inl.inj z)), List.find?_cons_of_neg (by simpa using e), crT_look rows c]
theorem by_dict {k W : DL.D} {g : Int} {done : List Pt} {all : List Cr} (cr : CR g done all μ) (hl : all.length < 1000000) {s0 : S} {y x3 : Sl} (hs0 : get s0.ρ 4 = y) {RE : Sl → S → Prop} : ∀ (rows pre : List Cr) (x : Sl), all = pre ++ rows →
    (RE (.k (crK all) (crT all)) ⟨[.d k, .d W, .d (.dic (crK all) (crD all)), x3, keepD y], μ⟩) →
    dcL [4] s0 (gN 4) (fun s R => R true s) E_points_by_cell_1 E_points_by_cell_2 RE ((crK rows).map kD) (crK pre) (crT pre) ⟨[.d k, .d W, .d (.dic (crK all) (crD all)), x3, x], μ⟩
  | [], pre, x, e, h => by
    rw [List.append_nil] at e
    subst e
    show dcL _ _ _ _ _ _ _ [] _ _ _
    rw [dcL_nil, zbck, hs0]
    exact h
  | r :: rows, pre, x, e, h => by
    have big : 1000000 < sizeLine := by decide
    have hr : r ∈ all := by rw [e]; simp
    obtain ⟨q, hq, f, eq⟩ := cr_find (List.mem_map_of_mem (f := (·.1)) hr)
    have : q = r := nodup_inj cr.nd hq hr eq
    subst this
    have hm := cr.mu q hr
    have hnew : dhas (crK pre) (.inl q.1) = false := cr_has pre _ fun z => by
      have := cr.nd
      rw [e, List.map_append, List.nodup_append] at this
      exact this.2.2 q.1 z q.1 (by simp) rfl
    have ih := by_dict (k := k) (W := W) cr hl hs0 (x3 := x3) (RE := RE) rows (pre ++ [q]) .no (by rw [e]; simp) h
    show dcL _ _ _ _ _ _ _ (kD (.inl q.1) :: (crK rows).map kD) _ _ _
    rw [dcL_cons]
    show gN 4 (.int q.1) _ _
    have lk1 : dlook (crK all) (crD all) (.inl q.1) = some (.ref q.2.1) := by rw [cr_look, f]; rfl
    simp! only [E_points_by_cell_1_eq, E_points_by_cell_2_eq, zSetd, zset0, zset1, zkeyi, zkeys, zTupM, ztupM, zmlk, zDcK, zGet, zisDic, zgetk, zLR, zlrk, zDisp, zdsp0, zdspC, zTPop, ztpop, zEnT, zenukT, lk1, hm]
    refine ⟨?_, ?_⟩
    · rw [show (crK pre).length = pre.length from by simp [crK]]
      have : all.length = pre.length + (rows.length + 1) := by rw [e]; simp
      omega
    · rw [kput_newK hnew, kput_newD hnew]
      unfold crK crT at ih ⊢
      rw [List.map_append, List.map_append] at ih
      exact ih
theorem by_cell_ok {k : Kp} (o : KpOk k) {ps : List Pt} (hp : ps.length < 1000000) (h : ∀ ks ds μ', (∀ c : Int, (dlook ks ds (.inl c)).getD (.tup []) = .tup ((ps.filter (inC k.g c)).map pD)) → R (.k ks ds) μ') : fn_points_by_cell [k.D, .tup (ps.map pD)] μ R := by
  show Φ_points_by_cell _ ⟨[.d k.D, .d (.tup (ps.map pD)), .no, .no, .no], μ⟩
  simp! only [Φ_points_by_cell, zSetd, zset0, zset1, zkeyi, zkeys, zTupM, ztupM, zmlk, zDcK, zGet, zisDic, zgetk, zLR, zlrk, zDisp, zdsp0, zdspC, zTPop, ztpop, zEnT, zenukT]
  refine by_loop o ps [] [] _ μ ⟨by simp, by simp, by simp, by simp, by simp⟩ (by simp) (by simp; omega) fun rows x μ1 cr l1 => ?_
  rw [List.nil_append] at cr l1
  simp! only [zSetd, zset0, zset1, zkeyi, zkeys, zTupM, ztupM, zmlk, zDcK, zGet, zisDic, zgetk, zLR, zlrk, zDisp, zdsp0, zdspC, zTPop, ztpop, zEnT, zenukT]
  refine by_dict (y := .no) cr (by omega) ?hs rows [] _ rfl ?_
  case hs => rfl
  simp! only [zSetd, zset0, zset1, zkeyi, zkeys, zTupM, ztupM, zmlk, zDcK, zGet, zisDic, zgetk, zLR, zlrk, zDisp, zdsp0, zdspC, zTPop, ztpop, zEnT, zenukT]
  refine h _ _ _ fun c => ?_
  rw [crT_look]
  by_cases e : c ∈ rows.map (·.1)
  · obtain ⟨r, hr, f, er⟩ := cr_find e
    rw [f]
    show DL.D.tup (r.2.2.map pD) = _
    rw [cr.ls r hr, er]
  · rw [cr_none e]
    show DL.D.tup [] = _
    rw [show ps.filter (inC k.g c) = [] from by
      rw [List.filter_eq_nil_iff]
      intro x hx z
      have z : x.1 / k.g = c := by simpa [inC] using z
      exact e (z ▸ cr.cov x hx)]
    rfl
end
end K20
namespace K20
open PySem PySem.Spec PyProof.Rows L2 DL
variable [Wd]
/-- what is measured -/
def mv (m : Str) (ps : List Pt) : DL.D := if m = "count" then .int ps.length else if m = "squares" then .int (sqI ps) else if m = "least" then vD (leF none ps) else if m = "greatest" then vD (grF none ps) else if m = "first" then eD ps.head? else if m = "last" then eD ps.getLast? else .int (sumI ps)
theorem an_mv {ps : List Pt} (o : Ok ps) {m : Str} (hm : m ∈ meas) : Ans fn_measured [.tup (ps.map pD), .str m] (mv m ps) := by
  simp only [meas, List.mem_cons, List.not_mem_nil, or_false] at hm
  rcases hm with rfl | rfl | rfl | rfl | rfl | rfl | rfl <;> intro μ R h <;> simp only [mv, ne_change_count, ne_change_first, ne_change_greatest, ne_change_last, ne_change_least, ne_change_mean, ne_change_squares, ne_change_sum, ne_change_variance, ne_change_width, ne_count_change, ne_count_first, ne_count_greatest, ne_count_last, ne_count_least, ne_count_mean, ne_count_squares, ne_count_sum, ne_count_variance, ne_count_width, ne_first_change, ne_first_count, ne_first_greatest, ne_first_last, ne_first_least, ne_first_mean, ne_first_squares, ne_first_sum, ne_first_variance, ne_first_width, ne_greatest_change, ne_greatest_count, ne_greatest_first, ne_greatest_last, ne_greatest_least, ne_greatest_mean, ne_greatest_squares, ne_greatest_sum, ne_greatest_variance, ne_greatest_width, ne_last_change, ne_last_count, ne_last_first, ne_last_greatest, ne_last_least, ne_last_mean, ne_last_squares, ne_last_sum, ne_last_variance, ne_last_width, ne_least_change, ne_least_count, ne_least_first, ne_least_greatest, ne_least_last, ne_least_mean, ne_least_squares, ne_least_sum, ne_least_variance, ne_least_width, ne_mean_change, ne_mean_count, ne_mean_first, ne_mean_greatest, ne_mean_last, ne_mean_least, ne_mean_squares, ne_mean_sum, ne_mean_variance, ne_mean_width, ne_squares_change, ne_squares_count, ne_squares_first, ne_squares_greatest, ne_squares_last, ne_squares_least, ne_squares_mean, ne_squares_sum, ne_squares_variance, ne_squares_width, ne_sum_change, ne_sum_count, ne_sum_first, ne_sum_greatest, ne_sum_last, ne_sum_least, ne_sum_mean, ne_sum_squares, ne_sum_variance, ne_sum_width, ne_variance_change, ne_variance_count, ne_variance_first, ne_variance_greatest, ne_variance_last, ne_variance_least, ne_variance_mean, ne_variance_squares, ne_variance_sum, ne_variance_width, ne_width_change, ne_width_count, ne_width_first, ne_width_greatest, ne_width_last, ne_width_least, ne_width_mean, ne_width_squares, ne_width_sum, ne_width_variance, if_true, if_false] at h
  · exact m_count h
  · exact m_first o h
  · exact m_greatest h
  · exact m_last o h
  · exact m_least h
  · exact m_squares o h
  · exact m_sum h
abbrev Fc := Nat × Nat × Str × DL.D
def fD (f : Fc) : DL.D := .tup [.int f.1, .int f.2.1, .str f.2.2.1, f.2.2.2]
def cellF (i : Nat) (k : Kp) (ps : List Pt) (c : Nat) : List Fc := k.ms.map fun m => (i, c, m, mv m (ps.filter (inC k.g c)))
def factsL (ps : List Pt) (now : Int) : Nat → List Kp → List Fc
  | _, [] => []
  | i, k :: ks => (k.cells now).flatMap (cellF i k ps) ++ factsL ps now (i + 1) ks
def Rl.first (r : Rl) (now : Int) : Int := match r.raw with
  | none => 0
  | some a => max2I 0 (now + 1 - a)
def hadP (r : Rl) (now : Int) (p : Pt) : Bool := decide (r.first now ≤ p.1) && decide (p.1 ≤ now)
def leftD (r : Rl) (now : Int) (ps : List Pt) : DL.D := .tup [.tup ((ps.filter (hadP r now)).map pD), .tup ((factsL ps now 0 r.ks).map fD)]
def upB (now : Int) (ps : List Pt) : Bool := match ps.getLast? with
  | none => true
  | some p => decide (p.1 ≤ now)
theorem asc_last {ps : List Pt} (h : ps.Pairwise lx) {q : Pt} (hq : ps.getLast? = some q) : ∀ p ∈ ps, p.1 ≤ q.1 := by
  induction ps with
  | nil => cases hq
  | cons a l ih =>
    intro p hp
    have ha := List.pairwise_cons.mp h
    cases l with
    | nil =>
      rw [List.getLast?_singleton] at hq
      cases hq
      rw [List.mem_singleton.mp hp]; exact Int.le_refl _
    | cons b l =>
      rw [List.getLast?_cons_cons] at hq
      rcases List.mem_cons.mp hp with rfl | hp
      · have := ha.1 q (List.mem_of_getLast? hq)
        unfold lx at this; omega
      · exact ih ha.2 hq p hp
theorem upB_iff {now : Int} {ps : List Pt} (h : ps.Pairwise lx) : upB now ps = true ↔ ∀ p ∈ ps, p.1 ≤ now := by
  unfold upB
  cases e : ps.getLast? with
  | none => rw [List.getLast?_eq_none_iff] at e; subst e; simp
  | some q =>
    refine ⟨fun z p hp => ?_, fun z => ?_⟩
    · have := asc_last h e p hp
      have z : q.1 ≤ now := by simpa using z
      omega
    · simpa using z q (List.mem_of_getLast? e)
theorem pDmap_last {ps : List Pt} : (ps.map pD).getLast? = ps.getLast?.map pD := List.getLast?_map ..
section
variable {μ : Mu} {R : Sl → Mu → Prop} {w : DL.D} {Δ : DE}
theorem an_upto {ps : List Pt} (o : Ok ps) {now : Int} : Ans fn_is_past_up_to [.tup (ps.map pD), .int now] (.bl (upB now ps)) := fun μ R h => by
  show Φ_is_past_up_to _ ⟨[.d (.tup (ps.map pD)), .d (.int now)], μ⟩
  simp! only [Φ_is_past_up_to]
  refine is_past_ok o ?_
  simp! only []
  cases e : ps.getLast? with
  | none =>
    rw [List.getLast?_eq_none_iff] at e
    subst e
    simp! only [List.map_nil, List.isEmpty_nil]
    exact h
  | some p =>
    have hne : (ps.map pD).isEmpty = false := by
      cases ps with
      | nil => cases e
      | cons a l => rfl
    unfold upB at h
    rw [e] at h
    simp! only [hne, atD_last, pDmap_last, e, Option.map_some, pD]
    exact h
theorem check_upto_ok {ps : List Pt} (o : Ok ps) {now : Int} (hu : upB now ps = true) (h : R (.d .non) μ) : fn_check_past_up_to [.tup (ps.map pD), .int now] μ R := by
  show Φ_check_past_up_to _ ⟨[.d (.tup (ps.map pD)), .d (.int now)], μ⟩
  simp! only [Φ_check_past_up_to]
  refine (an_upto o).go ?_
  simp! only [hu]
  exact h
theorem first_time_ok {r : Rl} {now : Int} (h : R (.d (.int (r.first now))) μ) : fn_first_time [r.D, .int now] μ R := by
  show Φ_first_time _ ⟨[.d r.D, .d (.int now), .no], μ⟩
  unfold Rl.D Rl.first at *
  cases ha : r.raw with
  | none =>
    rw [ha] at h
    simp! only [Φ_first_time, vD]
    exact h
  | some a =>
    rw [ha] at h
    simp! only [Φ_first_time, vD]
    exact h
theorem pl_lc {r : DL.D} {lo now : Int} {W : DL.D} {s0 : S} {y : Sl} (hs0 : get s0.ρ 4 = y) {RE : Sl → S → Prop} : ∀ (ps : List Pt) (acc : List Pt) (x : Sl), acc.length + ps.length < 1000000 →
    RE (.l ((acc ++ ps.filter fun p => decide (lo ≤ p.1) && decide (p.1 ≤ now)).map pD)) ⟨[.d r, .d (.int now), .d W, .d (.int lo), keepD y], μ⟩ →
    lcL [4] s0 (gN 4) T_points_left_1 E_points_left_0 RE (ps.map pD) (acc.map pD) ⟨[.d r, .d (.int now), .d W, .d (.int lo), x], μ⟩
  | [], acc, x, _, h => by
    simp! only [List.map_nil, lcL_nil, zbck, hs0]
    simpa using h
  | p :: ps, acc, x, hl, h => by
    have big : 1000000 < sizeLine := by decide
    simp only [List.length_cons] at hl
    simp! only [List.map_cons, lcL_cons, T_points_left_1_eq, E_points_left_0_eq, pD]
    by_cases e1 : lo ≤ p.1
    · by_cases e2 : p.1 ≤ now
      · have ih := pl_lc (r := r) (lo := lo) (now := now) (W := W) hs0 (RE := RE) ps (acc ++ [p]) .no (by simp; omega) (by simpa [e1, e2, List.append_assoc, List.filter_cons] using h)
        simp! only [e1, e2, List.length_map]
        refine ⟨by omega, ?_⟩
        rw [List.map_append] at ih
        exact ih
      · have ih := pl_lc (r := r) (lo := lo) (now := now) (W := W) hs0 (RE := RE) ps acc .no (by omega) (by simpa [e1, e2, List.filter_cons] using h)
        simp! only [e1, e2]
        exact ih
    · have ih := pl_lc (r := r) (lo := lo) (now := now) (W := W) hs0 (RE := RE) ps acc .no (by omega) (by simpa [e1, List.filter_cons] using h)
      simp! only [e1]
      exact ih
theorem points_left_ok {r : Rl} {now : Int} {ps : List Pt} (hl : ps.length < 1000000) (h : R (.d (.tup ((ps.filter (hadP r now)).map pD))) μ) : fn_points_left [r.D, .int now, .tup (ps.map pD)] μ R := by
  show Φ_points_left _ ⟨[.d r.D, .d (.int now), .d (.tup (ps.map pD)), .no, .no], μ⟩
  simp! only [Φ_points_left]
  refine first_time_ok ?_
  simp! only []
  refine pl_lc (y := .no) ?hs ps [] _ (by simpa using hl) ?_
  case hs => rfl
  simp! only [List.nil_append]
  exact h
theorem fc_lc {i c : Int} {K : DL.D} {q : List Pt} (oq : Ok q) {s0 : S} {y : Sl} (hs0 : get s0.ρ 4 = y) {RE : Sl → S → Prop} : ∀ (ms : List Str) (acc : List DL.D) (x : Sl), (∀ m ∈ ms, m ∈ meas) → acc.length + ms.length < 1000 →
    RE (.l (acc ++ ms.map fun m => .tup [.int i, .int c, .str m, mv m q])) ⟨[.d (.int i), .d (.int c), .d K, .d (.tup (q.map pD)), keepD y], μ⟩ →
    lcL [4] s0 (gN 4) (fun s R => R true s) E_facts_of_cell_0 RE (ms.map DL.D.str) acc ⟨[.d (.int i), .d (.int c), .d K, .d (.tup (q.map pD)), x], μ⟩
  | [], acc, x, _, _, h => by
    simp! only [List.map_nil, lcL_nil, zbck, hs0]
    simpa using h
  | m :: ms, acc, x, hm, hl, h => by
    have big : 1000000 < sizeLine := by decide
    simp only [List.length_cons] at hl
    simp! only [List.map_cons, lcL_cons, E_facts_of_cell_0_eq]
    refine (an_mv oq (hm m (List.mem_cons_self ..))).go ?_
    simp! only []
    refine ⟨h4', by omega, ?_⟩
    exact fc_lc oq hs0 ms _ _ (fun m' h' => hm m' (List.mem_cons_of_mem _ h')) (by simp; omega) (by rw [List.append_assoc]; exact h)
theorem facts_of_cell_ok {k : Kp} (o : KpOk k) {i c : Nat} {ps : List Pt} (op : Ok ps) (h : R (.l ((cellF i k ps c).map fD)) μ) : fn_facts_of_cell [.int i, .int c, k.D, .tup ((ps.filter (inC k.g c)).map pD)] μ R := by
  show Φ_facts_of_cell _ ⟨[.d (.int i), .d (.int c), .d k.D, .d (.tup ((ps.filter (inC k.g c)).map pD)), .no], μ⟩
  have hk : k.D = .tup [.int k.g, .tup (k.ms.map DL.D.str), vD k.age] := rfl
  simp! only [Φ_facts_of_cell]
  rw [hk]
  simp! only []
  refine fc_lc (y := .no) op.filter ?hs k.ms [] _ o.ms (by have := o.fw; simp; omega) ?_
  case hs => rfl
  simp! only []
  unfold cellF at h
  rw [List.map_map] at h
  exact h
theorem fk_loop {k : Kp} (o : KpOk k) {i : Nat} {ps : List Pt} (op : Ok ps) {now W : DL.D} {ks : List Key} {ds : List DL.D} (hk : ∀ c : Int, (dlook ks ds (.inl c)).getD (.tup []) = .tup ((ps.filter (inC k.g c)).map pD)) : ∀ (cs : List Nat) (acc : List Fc) (x4 x6 : Sl), (x4 = .k ks ds ∨ x4 = .d (.dic ks ds)) → acc.length + cs.length * 10 < 2000000 →
    (∀ x4 x6, Δ.nx ⟨[.d (.int i), .d k.D, .d now, .d W, x4, .l ((acc ++ cs.flatMap (cellF i k ps)).map fD), x6], μ⟩) →
    forL (gN 6) B_facts_of_keep_0 Δ (cs.map fun c : Nat => DL.D.int c) ⟨[.d (.int i), .d k.D, .d now, .d W, x4, .l (acc.map fD), x6], μ⟩
  | [], acc, x4, x6, _, _, h => by
    have := h x4 x6
    simp only [List.flatMap_nil, List.append_nil] at this
    exact this
  | c :: cs, acc, x4, x6, hx, hl, h => by
    have big : 2000020 < sizeLine := by decide
    have fw := o.fw
    simp only [List.length_cons] at hl
    have lc : (cellF i k ps c).length ≤ 10 := by simpa [cellF] using fw
    have ih := fk_loop o (i := i) op (now := now) (W := W) hk cs (acc ++ cellF i k ps c) (.d (.dic ks ds)) (.d (.int c)) (.inr rfl) (by rw [List.length_append]; omega) (fun a b => by simpa [List.append_assoc] using h a b)
    simp! only [List.map_cons, forL_cons, B_facts_of_keep_0_eq]
    rcases hx with rfl | rfl <;>
    · simp! only [zSetd, zset0, zset1, zkeyi, zkeys, zTupM, ztupM, zmlk, zDcK, zGet, zisDic, zgetk, zLR, zlrk, zDisp, zdsp0, zdspC, zTPop, ztpop, zEnT, zenukT, List.nil_append, List.append_nil]
      refine ⟨by decide, ?_⟩
      rw [hk c]
      refine facts_of_cell_ok o op ?_
      simp! only [zSetd, zset0, zset1, zkeyi, zkeys, zTupM, ztupM, zmlk, zDcK, zGet, zisDic, zgetk, zLR, zlrk, zDisp, zdsp0, zdspC, zTPop, ztpop, zEnT, zenukT, List.length_map]
      rw [List.map_append] at ih
      exact ⟨by omega, ih⟩
theorem facts_of_keep_ok {k : Kp} (o : KpOk k) {i : Nat} {ps : List Pt} (op : Ok ps) {now : Int} (h0 : 0 ≤ now) (h1 : now ≤ 100000) (h : ∀ μ', R (.l (((k.cells now).flatMap (cellF i k ps)).map fD)) μ') : fn_facts_of_keep [.int i, k.D, .int now, .tup (ps.map pD)] μ R := by
  show Φ_facts_of_keep _ ⟨[.d (.int i), .d k.D, .d (.int now), .d (.tup (ps.map pD)), .no, .no, .no], μ⟩
  have big : 2000000 < sizeLine := by decide
  have := kcells_len o h0 h1
  simp! only [Φ_facts_of_keep, zSetd, zset0, zset1, zkeyi, zkeys, zTupM, ztupM, zmlk, zDcK, zGet, zisDic, zgetk, zLR, zlrk, zDisp, zdsp0, zdspC, zTPop, ztpop, zEnT, zenukT]
  refine by_cell_ok o (by have := op.few; omega) fun ks ds μ' hk => ?_
  simp! only [zSetd, zset0, zset1, zkeyi, zkeys, zTupM, ztupM, zmlk, zDcK, zGet, zisDic, zgetk, zLR, zlrk, zDisp, zdsp0, zdspC, zTPop, ztpop, zEnT, zenukT]
  refine ⟨Nat.zero_le _, ?_⟩
  refine cell_numbers_ok o h0 h1 ?_
  simp! only [zSetd, zset0, zset1, zkeyi, zkeys, zTupM, ztupM, zmlk, zDcK, zGet, zisDic, zgetk, zLR, zlrk, zDisp, zdsp0, zdspC, zTPop, ztpop, zEnT, zenukT]
  refine fk_loop o op hk (k.cells now) [] _ _ (.inl rfl) (by simp; omega) fun x4 x6 => ?_
  simp! only [zSetd, zset0, zset1, zkeyi, zkeys, zTupM, ztupM, zmlk, zDcK, zGet, zisDic, zgetk, zLR, zlrk, zDisp, zdsp0, zdspC, zTPop, ztpop, zEnT, zenukT, List.nil_append]
  exact h μ'
theorem flat_len {α β : Type} {f : α → List β} {n : Nat} : ∀ {l : List α}, (∀ a ∈ l, (f a).length ≤ n) → (l.flatMap f).length ≤ l.length * n
  | [], _ => by simp
  | a :: l, h => by
    have := flat_len (f := f) (n := n) (l := l) fun a ha => h a (List.mem_cons_of_mem _ ha)
    have := h a (List.mem_cons_self ..)
    rw [List.flatMap_cons, List.length_append, List.length_cons, Nat.succ_mul]
    omega
theorem kfacts_len {k : Kp} (o : KpOk k) {i : Nat} {ps : List Pt} {now : Int} (h0 : 0 ≤ now) (h1 : now ≤ 100000) : ((k.cells now).flatMap (cellF i k ps)).length ≤ 1000010 := by
  have := kcells_len o h0 h1
  have := flat_len (f := cellF i k ps) (n := 10) (l := k.cells now) fun a _ => by simpa [cellF] using o.fw
  omega
theorem left_loop {r : Rl} {now : Int} (h0 : 0 ≤ now) (h1 : now ≤ 100000) {ps : List Pt} (op : Ok ps) : ∀ (ks : List Kp) (i : Nat) (acc : List Fc) (x y : Sl) (μ : Mu), (∀ k ∈ ks, KpOk k) → acc.length + ks.length * 1000010 < 10000000 →
    (∀ x y μ, Δ.nx ⟨[.d r.D, .d (.int now), .d (.tup (ps.map pD)), .l ((acc ++ factsL ps now i ks).map fD), x, y], μ⟩) →
    forL (gT 2 (gsCons (gN 4) (gsCons (gN 5) (gsNil)))) B_left_0 Δ (enumD i (ks.map Kp.D)) ⟨[.d r.D, .d (.int now), .d (.tup (ps.map pD)), .l (acc.map fD), x, y], μ⟩
  | [], i, acc, x, y, μ, _, _, h => by
    have := h x y μ
    simp only [factsL, List.append_nil] at this
    exact this
  | k :: ks, i, acc, x, y, μ, ho, hl, h => by
    have big : 10000000 < sizeLine := by decide
    have o := ho k (List.mem_cons_self ..)
    have kl := kfacts_len o (i := i) (ps := ps) h0 h1
    simp only [List.length_cons] at hl
    simp! only [List.map_cons, enumD, forL_cons, B_left_0_eq]
    refine facts_of_keep_ok o op h0 h1 fun μ' => ?_
    have ih := left_loop (r := r) h0 h1 op ks (i + 1) (acc ++ (k.cells now).flatMap (cellF i k ps)) (.d (.int i)) (.d k.D) μ' (fun q hq => ho q (List.mem_cons_of_mem _ hq)) (by rw [List.length_append]; omega) (fun a b c => by simpa [factsL, List.append_assoc] using h a b c)
    simp! only [List.length_map]
    rw [List.map_append] at ih
    exact ⟨by omega, ih⟩
theorem left_ok {r : Rl} (o : RlOk r) {now : Int} (h0 : 0 ≤ now) (h1 : now ≤ 100000) {ps : List Pt} (op : Ok ps) (hu : upB now ps = true) (h : ∀ μ', R (.d (leftD r now ps)) μ') : fn_left [r.D, .int now, .tup (ps.map pD)] μ R := by
  show Φ_left _ ⟨[.d r.D, .d (.int now), .d (.tup (ps.map pD)), .no, .no, .no], μ⟩
  have eD : r.D = .tup [vD r.raw, .tup (r.ks.map Kp.D)] := rfl
  simp! only [Φ_left]
  refine check_rule_ok o ?_
  refine check_moment_ok h0 h1 ?_
  refine check_upto_ok op hu ?_
  rw [eD]
  simp! only [zSetd, zset0, zset1, zkeyi, zkeys, zTupM, ztupM, zmlk, zDcK, zGet, zisDic, zgetk, zLR, zlrk, zDisp, zdsp0, zdspC, zTPop, ztpop, zEnT, zenukT]
  rw [← eD]
  refine ⟨Nat.zero_le _, ?_⟩
  refine left_loop h0 h1 op r.ks 0 [] _ _ _ o.ks (by have := o.few; simp; omega) fun x y μ' => ?_
  simp! only [List.nil_append]
  refine points_left_ok (by have := op.few; omega) ?_
  simp! only []
  exact ⟨h2', h μ'⟩
end
end K20
namespace K20
open PySem PySem.Spec PyProof.Rows L2 DL
variable [Wd]
theorem sm_sq {v : Int} (h : Sm 100 v) : cMul v v := h.cmul h
section
variable {μ : Mu} {R : Sl → Mu → Prop} {w : DL.D} {Δ : DE}
abbrev LA (W : DL.D) (m : Str) (x2 x3 x4 x5 : Sl) (μ : Mu) : S := ⟨[.d W, .d (.str m), x2, x3, x4, x5], μ⟩
theorem la_lc {W : DL.D} {m : Str} {x2 x3 x5 : Sl} {s0 : S} {y : Sl} (hs0 : get s0.ρ 4 = y) {RE : Sl → S → Prop} : ∀ (ps : List Pt) (acc : List DL.D) (x : Sl), acc.length + ps.length < 1000000 →
    RE (.l (acc ++ (ps.map fun p => p.2.2).map DL.D.int)) (LA W m x2 x3 (keepD y) x5 μ) →
    lcL [4] s0 (gN 4) (fun s R => R true s) E_p_law_measured_0 RE (ps.map pD) acc (LA W m x2 x3 x x5 μ)
  | [], acc, x, _, h => by
    simp! only [LA, List.map_nil, lcL_nil, zbck, hs0] at h ⊢
    exact h
  | p :: ps, acc, x, hl, h => by
    have big : 1000000 < sizeLine := by decide
    simp only [List.length_cons] at hl
    have ih := la_lc (W := W) (m := m) (x2 := x2) (x3 := x3) (x5 := x5) hs0 (RE := RE) ps (acc ++ [.int p.2.2]) .no (by simp; omega) (by rw [List.append_assoc]; exact h)
    simp! only [LA, List.map_cons, lcL_cons, E_p_law_measured_0_eq, pD]
    exact ⟨by omega, ih⟩
theorem la_sq {W : DL.D} {m : Str} {x2 x3 x4 : Sl} {s0 : S} {y : Sl} (hs0 : get s0.ρ 5 = y) {RE : Sl → S → Prop} : ∀ (ps : List Pt) (acc : List DL.D) (x : Sl), (∀ p ∈ ps, Sm 100 p.2.2) → acc.length + ps.length < 1000000 →
    RE (.l (acc ++ (ps.map fun p => p.2.2 * p.2.2).map DL.D.int)) (LA W m x2 x3 x4 (keepD y) μ) →
    lcL [5] s0 (gN 5) (fun s R => R true s) E_p_law_measured_1 RE ((ps.map fun p => p.2.2).map DL.D.int) acc (LA W m x2 x3 x4 x μ)
  | [], acc, x, _, _, h => by
    simp! only [LA, List.map_nil, lcL_nil, zbck, hs0] at h ⊢
    exact h
  | p :: ps, acc, x, hs, hl, h => by
    have big : 1000000 < sizeLine := by decide
    simp only [List.length_cons] at hl
    have ih := la_sq (W := W) (m := m) (x2 := x2) (x3 := x3) (x4 := x4) hs0 (RE := RE) ps (acc ++ [.int (p.2.2 * p.2.2)]) .no (fun q hq => hs q (List.mem_cons_of_mem _ hq)) (by simp; omega) (by rw [List.append_assoc]; exact h)
    simp! only [LA, List.map_cons, lcL_cons, E_p_law_measured_1_eq]
    exact ⟨sm_sq (hs p (List.mem_cons_self ..)), by omega, ih⟩
theorem law_answer_an {ps : List Pt} (hs : ∀ p ∈ ps, Sm 100 p.2.2) (hl : ps.length < 1000000) {m : Str} (hm : m ∈ meas) : Ans fn_p_law_measured [.lst (ps.map pD), .str m] (mv m ps) := fun μ R h => by
  show Φ_p_law_measured _ (LA (.lst (ps.map pD)) m .no .no .no .no μ)
  simp! only [Φ_p_law_measured, LA]
  refine la_lc (y := .no) ?hs ps [] _ (by simpa using hl) ?_
  case hs => rfl
  simp only [meas, List.mem_cons, List.not_mem_nil, or_false] at hm
  have ne : ∀ {p : Pt} {ps : List Pt}, (List.isEmpty (((p :: ps).map fun p => p.2.2).map DL.D.int)) = false := fun {p ps} => rfl
  rcases hm with rfl | rfl | rfl | rfl | rfl | rfl | rfl
  · simp only [mv, ne_change_count, ne_change_first, ne_change_greatest, ne_change_last, ne_change_least, ne_change_mean, ne_change_squares, ne_change_sum, ne_change_variance, ne_change_width, ne_count_change, ne_count_first, ne_count_greatest, ne_count_last, ne_count_least, ne_count_mean, ne_count_squares, ne_count_sum, ne_count_variance, ne_count_width, ne_first_change, ne_first_count, ne_first_greatest, ne_first_last, ne_first_least, ne_first_mean, ne_first_squares, ne_first_sum, ne_first_variance, ne_first_width, ne_greatest_change, ne_greatest_count, ne_greatest_first, ne_greatest_last, ne_greatest_least, ne_greatest_mean, ne_greatest_squares, ne_greatest_sum, ne_greatest_variance, ne_greatest_width, ne_last_change, ne_last_count, ne_last_first, ne_last_greatest, ne_last_least, ne_last_mean, ne_last_squares, ne_last_sum, ne_last_variance, ne_last_width, ne_least_change, ne_least_count, ne_least_first, ne_least_greatest, ne_least_last, ne_least_mean, ne_least_squares, ne_least_sum, ne_least_variance, ne_least_width, ne_mean_change, ne_mean_count, ne_mean_first, ne_mean_greatest, ne_mean_last, ne_mean_least, ne_mean_squares, ne_mean_sum, ne_mean_variance, ne_mean_width, ne_squares_change, ne_squares_count, ne_squares_first, ne_squares_greatest, ne_squares_last, ne_squares_least, ne_squares_mean, ne_squares_sum, ne_squares_variance, ne_squares_width, ne_sum_change, ne_sum_count, ne_sum_first, ne_sum_greatest, ne_sum_last, ne_sum_least, ne_sum_mean, ne_sum_squares, ne_sum_variance, ne_sum_width, ne_variance_change, ne_variance_count, ne_variance_first, ne_variance_greatest, ne_variance_last, ne_variance_least, ne_variance_mean, ne_variance_squares, ne_variance_sum, ne_variance_width, ne_width_change, ne_width_count, ne_width_first, ne_width_greatest, ne_width_last, ne_width_least, ne_width_mean, ne_width_squares, ne_width_sum, ne_width_variance, if_true, if_false] at h
    simp! only [LA, ne_change_count, ne_change_first, ne_change_greatest, ne_change_last, ne_change_least, ne_change_mean, ne_change_squares, ne_change_sum, ne_change_variance, ne_change_width, ne_count_change, ne_count_first, ne_count_greatest, ne_count_last, ne_count_least, ne_count_mean, ne_count_squares, ne_count_sum, ne_count_variance, ne_count_width, ne_first_change, ne_first_count, ne_first_greatest, ne_first_last, ne_first_least, ne_first_mean, ne_first_squares, ne_first_sum, ne_first_variance, ne_first_width, ne_greatest_change, ne_greatest_count, ne_greatest_first, ne_greatest_last, ne_greatest_least, ne_greatest_mean, ne_greatest_squares, ne_greatest_sum, ne_greatest_variance, ne_greatest_width, ne_last_change, ne_last_count, ne_last_first, ne_last_greatest, ne_last_least, ne_last_mean, ne_last_squares, ne_last_sum, ne_last_variance, ne_last_width, ne_least_change, ne_least_count, ne_least_first, ne_least_greatest, ne_least_last, ne_least_mean, ne_least_squares, ne_least_sum, ne_least_variance, ne_least_width, ne_mean_change, ne_mean_count, ne_mean_first, ne_mean_greatest, ne_mean_last, ne_mean_least, ne_mean_squares, ne_mean_sum, ne_mean_variance, ne_mean_width, ne_squares_change, ne_squares_count, ne_squares_first, ne_squares_greatest, ne_squares_last, ne_squares_least, ne_squares_mean, ne_squares_sum, ne_squares_variance, ne_squares_width, ne_sum_change, ne_sum_count, ne_sum_first, ne_sum_greatest, ne_sum_last, ne_sum_least, ne_sum_mean, ne_sum_squares, ne_sum_variance, ne_sum_width, ne_variance_change, ne_variance_count, ne_variance_first, ne_variance_greatest, ne_variance_last, ne_variance_least, ne_variance_mean, ne_variance_squares, ne_variance_sum, ne_variance_width, ne_width_change, ne_width_count, ne_width_first, ne_width_greatest, ne_width_last, ne_width_least, ne_width_mean, ne_width_squares, ne_width_sum, ne_width_variance, List.nil_append, List.length_map]
    exact h
  · simp only [mv, ne_change_count, ne_change_first, ne_change_greatest, ne_change_last, ne_change_least, ne_change_mean, ne_change_squares, ne_change_sum, ne_change_variance, ne_change_width, ne_count_change, ne_count_first, ne_count_greatest, ne_count_last, ne_count_least, ne_count_mean, ne_count_squares, ne_count_sum, ne_count_variance, ne_count_width, ne_first_change, ne_first_count, ne_first_greatest, ne_first_last, ne_first_least, ne_first_mean, ne_first_squares, ne_first_sum, ne_first_variance, ne_first_width, ne_greatest_change, ne_greatest_count, ne_greatest_first, ne_greatest_last, ne_greatest_least, ne_greatest_mean, ne_greatest_squares, ne_greatest_sum, ne_greatest_variance, ne_greatest_width, ne_last_change, ne_last_count, ne_last_first, ne_last_greatest, ne_last_least, ne_last_mean, ne_last_squares, ne_last_sum, ne_last_variance, ne_last_width, ne_least_change, ne_least_count, ne_least_first, ne_least_greatest, ne_least_last, ne_least_mean, ne_least_squares, ne_least_sum, ne_least_variance, ne_least_width, ne_mean_change, ne_mean_count, ne_mean_first, ne_mean_greatest, ne_mean_last, ne_mean_least, ne_mean_squares, ne_mean_sum, ne_mean_variance, ne_mean_width, ne_squares_change, ne_squares_count, ne_squares_first, ne_squares_greatest, ne_squares_last, ne_squares_least, ne_squares_mean, ne_squares_sum, ne_squares_variance, ne_squares_width, ne_sum_change, ne_sum_count, ne_sum_first, ne_sum_greatest, ne_sum_last, ne_sum_least, ne_sum_mean, ne_sum_squares, ne_sum_variance, ne_sum_width, ne_variance_change, ne_variance_count, ne_variance_first, ne_variance_greatest, ne_variance_last, ne_variance_least, ne_variance_mean, ne_variance_squares, ne_variance_sum, ne_variance_width, ne_width_change, ne_width_count, ne_width_first, ne_width_greatest, ne_width_last, ne_width_least, ne_width_mean, ne_width_squares, ne_width_sum, ne_width_variance, if_true, if_false] at h
    cases ps with
    | nil => simp! only [LA, ne_change_count, ne_change_first, ne_change_greatest, ne_change_last, ne_change_least, ne_change_mean, ne_change_squares, ne_change_sum, ne_change_variance, ne_change_width, ne_count_change, ne_count_first, ne_count_greatest, ne_count_last, ne_count_least, ne_count_mean, ne_count_squares, ne_count_sum, ne_count_variance, ne_count_width, ne_first_change, ne_first_count, ne_first_greatest, ne_first_last, ne_first_least, ne_first_mean, ne_first_squares, ne_first_sum, ne_first_variance, ne_first_width, ne_greatest_change, ne_greatest_count, ne_greatest_first, ne_greatest_last, ne_greatest_least, ne_greatest_mean, ne_greatest_squares, ne_greatest_sum, ne_greatest_variance, ne_greatest_width, ne_last_change, ne_last_count, ne_last_first, ne_last_greatest, ne_last_least, ne_last_mean, ne_last_squares, ne_last_sum, ne_last_variance, ne_last_width, ne_least_change, ne_least_count, ne_least_first, ne_least_greatest, ne_least_last, ne_least_mean, ne_least_squares, ne_least_sum, ne_least_variance, ne_least_width, ne_mean_change, ne_mean_count, ne_mean_first, ne_mean_greatest, ne_mean_last, ne_mean_least, ne_mean_squares, ne_mean_sum, ne_mean_variance, ne_mean_width, ne_squares_change, ne_squares_count, ne_squares_first, ne_squares_greatest, ne_squares_last, ne_squares_least, ne_squares_mean, ne_squares_sum, ne_squares_variance, ne_squares_width, ne_sum_change, ne_sum_count, ne_sum_first, ne_sum_greatest, ne_sum_last, ne_sum_least, ne_sum_mean, ne_sum_squares, ne_sum_variance, ne_sum_width, ne_variance_change, ne_variance_count, ne_variance_first, ne_variance_greatest, ne_variance_last, ne_variance_least, ne_variance_mean, ne_variance_squares, ne_variance_sum, ne_variance_width, ne_width_change, ne_width_count, ne_width_first, ne_width_greatest, ne_width_last, ne_width_least, ne_width_mean, ne_width_squares, ne_width_sum, ne_width_variance, List.map_nil, List.isEmpty_nil]; exact h
    | cons p ps =>
      simp! only [LA, ne_change_count, ne_change_first, ne_change_greatest, ne_change_last, ne_change_least, ne_change_mean, ne_change_squares, ne_change_sum, ne_change_variance, ne_change_width, ne_count_change, ne_count_first, ne_count_greatest, ne_count_last, ne_count_least, ne_count_mean, ne_count_squares, ne_count_sum, ne_count_variance, ne_count_width, ne_first_change, ne_first_count, ne_first_greatest, ne_first_last, ne_first_least, ne_first_mean, ne_first_squares, ne_first_sum, ne_first_variance, ne_first_width, ne_greatest_change, ne_greatest_count, ne_greatest_first, ne_greatest_last, ne_greatest_least, ne_greatest_mean, ne_greatest_squares, ne_greatest_sum, ne_greatest_variance, ne_greatest_width, ne_last_change, ne_last_count, ne_last_first, ne_last_greatest, ne_last_least, ne_last_mean, ne_last_squares, ne_last_sum, ne_last_variance, ne_last_width, ne_least_change, ne_least_count, ne_least_first, ne_least_greatest, ne_least_last, ne_least_mean, ne_least_squares, ne_least_sum, ne_least_variance, ne_least_width, ne_mean_change, ne_mean_count, ne_mean_first, ne_mean_greatest, ne_mean_last, ne_mean_least, ne_mean_squares, ne_mean_sum, ne_mean_variance, ne_mean_width, ne_squares_change, ne_squares_count, ne_squares_first, ne_squares_greatest, ne_squares_last, ne_squares_least, ne_squares_mean, ne_squares_sum, ne_squares_variance, ne_squares_width, ne_sum_change, ne_sum_count, ne_sum_first, ne_sum_greatest, ne_sum_last, ne_sum_least, ne_sum_mean, ne_sum_squares, ne_sum_variance, ne_sum_width, ne_variance_change, ne_variance_count, ne_variance_first, ne_variance_greatest, ne_variance_last, ne_variance_least, ne_variance_mean, ne_variance_squares, ne_variance_sum, ne_variance_width, ne_width_change, ne_width_count, ne_width_first, ne_width_greatest, ne_width_last, ne_width_least, ne_width_mean, ne_width_squares, ne_width_sum, ne_width_variance, List.nil_append, ne]
      simp! only [List.map_cons, pD, ne_change_count, ne_change_first, ne_change_greatest, ne_change_last, ne_change_least, ne_change_mean, ne_change_squares, ne_change_sum, ne_change_variance, ne_change_width, ne_count_change, ne_count_first, ne_count_greatest, ne_count_last, ne_count_least, ne_count_mean, ne_count_squares, ne_count_sum, ne_count_variance, ne_count_width, ne_first_change, ne_first_count, ne_first_greatest, ne_first_last, ne_first_least, ne_first_mean, ne_first_squares, ne_first_sum, ne_first_variance, ne_first_width, ne_greatest_change, ne_greatest_count, ne_greatest_first, ne_greatest_last, ne_greatest_least, ne_greatest_mean, ne_greatest_squares, ne_greatest_sum, ne_greatest_variance, ne_greatest_width, ne_last_change, ne_last_count, ne_last_first, ne_last_greatest, ne_last_least, ne_last_mean, ne_last_squares, ne_last_sum, ne_last_variance, ne_last_width, ne_least_change, ne_least_count, ne_least_first, ne_least_greatest, ne_least_last, ne_least_mean, ne_least_squares, ne_least_sum, ne_least_variance, ne_least_width, ne_mean_change, ne_mean_count, ne_mean_first, ne_mean_greatest, ne_mean_last, ne_mean_least, ne_mean_squares, ne_mean_sum, ne_mean_variance, ne_mean_width, ne_squares_change, ne_squares_count, ne_squares_first, ne_squares_greatest, ne_squares_last, ne_squares_least, ne_squares_mean, ne_squares_sum, ne_squares_variance, ne_squares_width, ne_sum_change, ne_sum_count, ne_sum_first, ne_sum_greatest, ne_sum_last, ne_sum_least, ne_sum_mean, ne_sum_squares, ne_sum_variance, ne_sum_width, ne_variance_change, ne_variance_count, ne_variance_first, ne_variance_greatest, ne_variance_last, ne_variance_least, ne_variance_mean, ne_variance_squares, ne_variance_sum, ne_variance_width, ne_width_change, ne_width_count, ne_width_first, ne_width_greatest, ne_width_last, ne_width_least, ne_width_mean, ne_width_squares, ne_width_sum, ne_width_variance]
      exact ⟨h2', h⟩
  · simp only [mv, ne_change_count, ne_change_first, ne_change_greatest, ne_change_last, ne_change_least, ne_change_mean, ne_change_squares, ne_change_sum, ne_change_variance, ne_change_width, ne_count_change, ne_count_first, ne_count_greatest, ne_count_last, ne_count_least, ne_count_mean, ne_count_squares, ne_count_sum, ne_count_variance, ne_count_width, ne_first_change, ne_first_count, ne_first_greatest, ne_first_last, ne_first_least, ne_first_mean, ne_first_squares, ne_first_sum, ne_first_variance, ne_first_width, ne_greatest_change, ne_greatest_count, ne_greatest_first, ne_greatest_last, ne_greatest_least, ne_greatest_mean, ne_greatest_squares, ne_greatest_sum, ne_greatest_variance, ne_greatest_width, ne_last_change, ne_last_count, ne_last_first, ne_last_greatest, ne_last_least, ne_last_mean, ne_last_squares, ne_last_sum, ne_last_variance, ne_last_width, ne_least_change, ne_least_count, ne_least_first, ne_least_greatest, ne_least_last, ne_least_mean, ne_least_squares, ne_least_sum, ne_least_variance, ne_least_width, ne_mean_change, ne_mean_count, ne_mean_first, ne_mean_greatest, ne_mean_last, ne_mean_least, ne_mean_squares, ne_mean_sum, ne_mean_variance, ne_mean_width, ne_squares_change, ne_squares_count, ne_squares_first, ne_squares_greatest, ne_squares_last, ne_squares_least, ne_squares_mean, ne_squares_sum, ne_squares_variance, ne_squares_width, ne_sum_change, ne_sum_count, ne_sum_first, ne_sum_greatest, ne_sum_last, ne_sum_least, ne_sum_mean, ne_sum_squares, ne_sum_variance, ne_sum_width, ne_variance_change, ne_variance_count, ne_variance_first, ne_variance_greatest, ne_variance_last, ne_variance_least, ne_variance_mean, ne_variance_squares, ne_variance_sum, ne_variance_width, ne_width_change, ne_width_count, ne_width_first, ne_width_greatest, ne_width_last, ne_width_least, ne_width_mean, ne_width_squares, ne_width_sum, ne_width_variance, if_true, if_false] at h
    cases ps with
    | nil => simp! only [LA, ne_change_count, ne_change_first, ne_change_greatest, ne_change_last, ne_change_least, ne_change_mean, ne_change_squares, ne_change_sum, ne_change_variance, ne_change_width, ne_count_change, ne_count_first, ne_count_greatest, ne_count_last, ne_count_least, ne_count_mean, ne_count_squares, ne_count_sum, ne_count_variance, ne_count_width, ne_first_change, ne_first_count, ne_first_greatest, ne_first_last, ne_first_least, ne_first_mean, ne_first_squares, ne_first_sum, ne_first_variance, ne_first_width, ne_greatest_change, ne_greatest_count, ne_greatest_first, ne_greatest_last, ne_greatest_least, ne_greatest_mean, ne_greatest_squares, ne_greatest_sum, ne_greatest_variance, ne_greatest_width, ne_last_change, ne_last_count, ne_last_first, ne_last_greatest, ne_last_least, ne_last_mean, ne_last_squares, ne_last_sum, ne_last_variance, ne_last_width, ne_least_change, ne_least_count, ne_least_first, ne_least_greatest, ne_least_last, ne_least_mean, ne_least_squares, ne_least_sum, ne_least_variance, ne_least_width, ne_mean_change, ne_mean_count, ne_mean_first, ne_mean_greatest, ne_mean_last, ne_mean_least, ne_mean_squares, ne_mean_sum, ne_mean_variance, ne_mean_width, ne_squares_change, ne_squares_count, ne_squares_first, ne_squares_greatest, ne_squares_last, ne_squares_least, ne_squares_mean, ne_squares_sum, ne_squares_variance, ne_squares_width, ne_sum_change, ne_sum_count, ne_sum_first, ne_sum_greatest, ne_sum_last, ne_sum_least, ne_sum_mean, ne_sum_squares, ne_sum_variance, ne_sum_width, ne_variance_change, ne_variance_count, ne_variance_first, ne_variance_greatest, ne_variance_last, ne_variance_least, ne_variance_mean, ne_variance_squares, ne_variance_sum, ne_variance_width, ne_width_change, ne_width_count, ne_width_first, ne_width_greatest, ne_width_last, ne_width_least, ne_width_mean, ne_width_squares, ne_width_sum, ne_width_variance, List.map_nil, List.isEmpty_nil]; exact h
    | cons p ps =>
      simp! only [LA, ne_change_count, ne_change_first, ne_change_greatest, ne_change_last, ne_change_least, ne_change_mean, ne_change_squares, ne_change_sum, ne_change_variance, ne_change_width, ne_count_change, ne_count_first, ne_count_greatest, ne_count_last, ne_count_least, ne_count_mean, ne_count_squares, ne_count_sum, ne_count_variance, ne_count_width, ne_first_change, ne_first_count, ne_first_greatest, ne_first_last, ne_first_least, ne_first_mean, ne_first_squares, ne_first_sum, ne_first_variance, ne_first_width, ne_greatest_change, ne_greatest_count, ne_greatest_first, ne_greatest_last, ne_greatest_least, ne_greatest_mean, ne_greatest_squares, ne_greatest_sum, ne_greatest_variance, ne_greatest_width, ne_last_change, ne_last_count, ne_last_first, ne_last_greatest, ne_last_least, ne_last_mean, ne_last_squares, ne_last_sum, ne_last_variance, ne_last_width, ne_least_change, ne_least_count, ne_least_first, ne_least_greatest, ne_least_last, ne_least_mean, ne_least_squares, ne_least_sum, ne_least_variance, ne_least_width, ne_mean_change, ne_mean_count, ne_mean_first, ne_mean_greatest, ne_mean_last, ne_mean_least, ne_mean_squares, ne_mean_sum, ne_mean_variance, ne_mean_width, ne_squares_change, ne_squares_count, ne_squares_first, ne_squares_greatest, ne_squares_last, ne_squares_least, ne_squares_mean, ne_squares_sum, ne_squares_variance, ne_squares_width, ne_sum_change, ne_sum_count, ne_sum_first, ne_sum_greatest, ne_sum_last, ne_sum_least, ne_sum_mean, ne_sum_squares, ne_sum_variance, ne_sum_width, ne_variance_change, ne_variance_count, ne_variance_first, ne_variance_greatest, ne_variance_last, ne_variance_least, ne_variance_mean, ne_variance_squares, ne_variance_sum, ne_variance_width, ne_width_change, ne_width_count, ne_width_first, ne_width_greatest, ne_width_last, ne_width_least, ne_width_mean, ne_width_squares, ne_width_sum, ne_width_variance, List.nil_append, ne, xMaxL]
      refine ⟨by simp, fun v hv hle => ?_⟩
      rw [grF_uniq (m := v) (by obtain ⟨q, hq, e⟩ := List.mem_map.mp hv; exact ⟨q, hq, e⟩) (fun q hq => hle _ (List.mem_map_of_mem hq))] at h
      exact h
  · simp only [mv, ne_change_count, ne_change_first, ne_change_greatest, ne_change_last, ne_change_least, ne_change_mean, ne_change_squares, ne_change_sum, ne_change_variance, ne_change_width, ne_count_change, ne_count_first, ne_count_greatest, ne_count_last, ne_count_least, ne_count_mean, ne_count_squares, ne_count_sum, ne_count_variance, ne_count_width, ne_first_change, ne_first_count, ne_first_greatest, ne_first_last, ne_first_least, ne_first_mean, ne_first_squares, ne_first_sum, ne_first_variance, ne_first_width, ne_greatest_change, ne_greatest_count, ne_greatest_first, ne_greatest_last, ne_greatest_least, ne_greatest_mean, ne_greatest_squares, ne_greatest_sum, ne_greatest_variance, ne_greatest_width, ne_last_change, ne_last_count, ne_last_first, ne_last_greatest, ne_last_least, ne_last_mean, ne_last_squares, ne_last_sum, ne_last_variance, ne_last_width, ne_least_change, ne_least_count, ne_least_first, ne_least_greatest, ne_least_last, ne_least_mean, ne_least_squares, ne_least_sum, ne_least_variance, ne_least_width, ne_mean_change, ne_mean_count, ne_mean_first, ne_mean_greatest, ne_mean_last, ne_mean_least, ne_mean_squares, ne_mean_sum, ne_mean_variance, ne_mean_width, ne_squares_change, ne_squares_count, ne_squares_first, ne_squares_greatest, ne_squares_last, ne_squares_least, ne_squares_mean, ne_squares_sum, ne_squares_variance, ne_squares_width, ne_sum_change, ne_sum_count, ne_sum_first, ne_sum_greatest, ne_sum_last, ne_sum_least, ne_sum_mean, ne_sum_squares, ne_sum_variance, ne_sum_width, ne_variance_change, ne_variance_count, ne_variance_first, ne_variance_greatest, ne_variance_last, ne_variance_least, ne_variance_mean, ne_variance_squares, ne_variance_sum, ne_variance_width, ne_width_change, ne_width_count, ne_width_first, ne_width_greatest, ne_width_last, ne_width_least, ne_width_mean, ne_width_squares, ne_width_sum, ne_width_variance, if_true, if_false] at h
    cases ps with
    | nil => simp! only [LA, ne_change_count, ne_change_first, ne_change_greatest, ne_change_last, ne_change_least, ne_change_mean, ne_change_squares, ne_change_sum, ne_change_variance, ne_change_width, ne_count_change, ne_count_first, ne_count_greatest, ne_count_last, ne_count_least, ne_count_mean, ne_count_squares, ne_count_sum, ne_count_variance, ne_count_width, ne_first_change, ne_first_count, ne_first_greatest, ne_first_last, ne_first_least, ne_first_mean, ne_first_squares, ne_first_sum, ne_first_variance, ne_first_width, ne_greatest_change, ne_greatest_count, ne_greatest_first, ne_greatest_last, ne_greatest_least, ne_greatest_mean, ne_greatest_squares, ne_greatest_sum, ne_greatest_variance, ne_greatest_width, ne_last_change, ne_last_count, ne_last_first, ne_last_greatest, ne_last_least, ne_last_mean, ne_last_squares, ne_last_sum, ne_last_variance, ne_last_width, ne_least_change, ne_least_count, ne_least_first, ne_least_greatest, ne_least_last, ne_least_mean, ne_least_squares, ne_least_sum, ne_least_variance, ne_least_width, ne_mean_change, ne_mean_count, ne_mean_first, ne_mean_greatest, ne_mean_last, ne_mean_least, ne_mean_squares, ne_mean_sum, ne_mean_variance, ne_mean_width, ne_squares_change, ne_squares_count, ne_squares_first, ne_squares_greatest, ne_squares_last, ne_squares_least, ne_squares_mean, ne_squares_sum, ne_squares_variance, ne_squares_width, ne_sum_change, ne_sum_count, ne_sum_first, ne_sum_greatest, ne_sum_last, ne_sum_least, ne_sum_mean, ne_sum_squares, ne_sum_variance, ne_sum_width, ne_variance_change, ne_variance_count, ne_variance_first, ne_variance_greatest, ne_variance_last, ne_variance_least, ne_variance_mean, ne_variance_squares, ne_variance_sum, ne_variance_width, ne_width_change, ne_width_count, ne_width_first, ne_width_greatest, ne_width_last, ne_width_least, ne_width_mean, ne_width_squares, ne_width_sum, ne_width_variance, List.map_nil, List.isEmpty_nil]; exact h
    | cons p ps =>
      have l1 : ((p :: ps).map pD).getLast? = some (pD ((p :: ps).getLast (by simp))) := by rw [List.getLast?_map, List.getLast?_eq_some_getLast (by simp)]; rfl
      rw [List.getLast?_eq_some_getLast (by simp)] at h
      simp! only [LA, ne_change_count, ne_change_first, ne_change_greatest, ne_change_last, ne_change_least, ne_change_mean, ne_change_squares, ne_change_sum, ne_change_variance, ne_change_width, ne_count_change, ne_count_first, ne_count_greatest, ne_count_last, ne_count_least, ne_count_mean, ne_count_squares, ne_count_sum, ne_count_variance, ne_count_width, ne_first_change, ne_first_count, ne_first_greatest, ne_first_last, ne_first_least, ne_first_mean, ne_first_squares, ne_first_sum, ne_first_variance, ne_first_width, ne_greatest_change, ne_greatest_count, ne_greatest_first, ne_greatest_last, ne_greatest_least, ne_greatest_mean, ne_greatest_squares, ne_greatest_sum, ne_greatest_variance, ne_greatest_width, ne_last_change, ne_last_count, ne_last_first, ne_last_greatest, ne_last_least, ne_last_mean, ne_last_squares, ne_last_sum, ne_last_variance, ne_last_width, ne_least_change, ne_least_count, ne_least_first, ne_least_greatest, ne_least_last, ne_least_mean, ne_least_squares, ne_least_sum, ne_least_variance, ne_least_width, ne_mean_change, ne_mean_count, ne_mean_first, ne_mean_greatest, ne_mean_last, ne_mean_least, ne_mean_squares, ne_mean_sum, ne_mean_variance, ne_mean_width, ne_squares_change, ne_squares_count, ne_squares_first, ne_squares_greatest, ne_squares_last, ne_squares_least, ne_squares_mean, ne_squares_sum, ne_squares_variance, ne_squares_width, ne_sum_change, ne_sum_count, ne_sum_first, ne_sum_greatest, ne_sum_last, ne_sum_least, ne_sum_mean, ne_sum_squares, ne_sum_variance, ne_sum_width, ne_variance_change, ne_variance_count, ne_variance_first, ne_variance_greatest, ne_variance_last, ne_variance_least, ne_variance_mean, ne_variance_squares, ne_variance_sum, ne_variance_width, ne_width_change, ne_width_count, ne_width_first, ne_width_greatest, ne_width_last, ne_width_least, ne_width_mean, ne_width_squares, ne_width_sum, ne_width_variance, List.nil_append, ne, atD_last, l1, pD]
      exact ⟨h2', h⟩
  · simp only [mv, ne_change_count, ne_change_first, ne_change_greatest, ne_change_last, ne_change_least, ne_change_mean, ne_change_squares, ne_change_sum, ne_change_variance, ne_change_width, ne_count_change, ne_count_first, ne_count_greatest, ne_count_last, ne_count_least, ne_count_mean, ne_count_squares, ne_count_sum, ne_count_variance, ne_count_width, ne_first_change, ne_first_count, ne_first_greatest, ne_first_last, ne_first_least, ne_first_mean, ne_first_squares, ne_first_sum, ne_first_variance, ne_first_width, ne_greatest_change, ne_greatest_count, ne_greatest_first, ne_greatest_last, ne_greatest_least, ne_greatest_mean, ne_greatest_squares, ne_greatest_sum, ne_greatest_variance, ne_greatest_width, ne_last_change, ne_last_count, ne_last_first, ne_last_greatest, ne_last_least, ne_last_mean, ne_last_squares, ne_last_sum, ne_last_variance, ne_last_width, ne_least_change, ne_least_count, ne_least_first, ne_least_greatest, ne_least_last, ne_least_mean, ne_least_squares, ne_least_sum, ne_least_variance, ne_least_width, ne_mean_change, ne_mean_count, ne_mean_first, ne_mean_greatest, ne_mean_last, ne_mean_least, ne_mean_squares, ne_mean_sum, ne_mean_variance, ne_mean_width, ne_squares_change, ne_squares_count, ne_squares_first, ne_squares_greatest, ne_squares_last, ne_squares_least, ne_squares_mean, ne_squares_sum, ne_squares_variance, ne_squares_width, ne_sum_change, ne_sum_count, ne_sum_first, ne_sum_greatest, ne_sum_last, ne_sum_least, ne_sum_mean, ne_sum_squares, ne_sum_variance, ne_sum_width, ne_variance_change, ne_variance_count, ne_variance_first, ne_variance_greatest, ne_variance_last, ne_variance_least, ne_variance_mean, ne_variance_squares, ne_variance_sum, ne_variance_width, ne_width_change, ne_width_count, ne_width_first, ne_width_greatest, ne_width_last, ne_width_least, ne_width_mean, ne_width_squares, ne_width_sum, ne_width_variance, if_true, if_false] at h
    cases ps with
    | nil => simp! only [LA, ne_change_count, ne_change_first, ne_change_greatest, ne_change_last, ne_change_least, ne_change_mean, ne_change_squares, ne_change_sum, ne_change_variance, ne_change_width, ne_count_change, ne_count_first, ne_count_greatest, ne_count_last, ne_count_least, ne_count_mean, ne_count_squares, ne_count_sum, ne_count_variance, ne_count_width, ne_first_change, ne_first_count, ne_first_greatest, ne_first_last, ne_first_least, ne_first_mean, ne_first_squares, ne_first_sum, ne_first_variance, ne_first_width, ne_greatest_change, ne_greatest_count, ne_greatest_first, ne_greatest_last, ne_greatest_least, ne_greatest_mean, ne_greatest_squares, ne_greatest_sum, ne_greatest_variance, ne_greatest_width, ne_last_change, ne_last_count, ne_last_first, ne_last_greatest, ne_last_least, ne_last_mean, ne_last_squares, ne_last_sum, ne_last_variance, ne_last_width, ne_least_change, ne_least_count, ne_least_first, ne_least_greatest, ne_least_last, ne_least_mean, ne_least_squares, ne_least_sum, ne_least_variance, ne_least_width, ne_mean_change, ne_mean_count, ne_mean_first, ne_mean_greatest, ne_mean_last, ne_mean_least, ne_mean_squares, ne_mean_sum, ne_mean_variance, ne_mean_width, ne_squares_change, ne_squares_count, ne_squares_first, ne_squares_greatest, ne_squares_last, ne_squares_least, ne_squares_mean, ne_squares_sum, ne_squares_variance, ne_squares_width, ne_sum_change, ne_sum_count, ne_sum_first, ne_sum_greatest, ne_sum_last, ne_sum_least, ne_sum_mean, ne_sum_squares, ne_sum_variance, ne_sum_width, ne_variance_change, ne_variance_count, ne_variance_first, ne_variance_greatest, ne_variance_last, ne_variance_least, ne_variance_mean, ne_variance_squares, ne_variance_sum, ne_variance_width, ne_width_change, ne_width_count, ne_width_first, ne_width_greatest, ne_width_last, ne_width_least, ne_width_mean, ne_width_squares, ne_width_sum, ne_width_variance, List.map_nil, List.isEmpty_nil]; exact h
    | cons p ps =>
      simp! only [LA, ne_change_count, ne_change_first, ne_change_greatest, ne_change_last, ne_change_least, ne_change_mean, ne_change_squares, ne_change_sum, ne_change_variance, ne_change_width, ne_count_change, ne_count_first, ne_count_greatest, ne_count_last, ne_count_least, ne_count_mean, ne_count_squares, ne_count_sum, ne_count_variance, ne_count_width, ne_first_change, ne_first_count, ne_first_greatest, ne_first_last, ne_first_least, ne_first_mean, ne_first_squares, ne_first_sum, ne_first_variance, ne_first_width, ne_greatest_change, ne_greatest_count, ne_greatest_first, ne_greatest_last, ne_greatest_least, ne_greatest_mean, ne_greatest_squares, ne_greatest_sum, ne_greatest_variance, ne_greatest_width, ne_last_change, ne_last_count, ne_last_first, ne_last_greatest, ne_last_least, ne_last_mean, ne_last_squares, ne_last_sum, ne_last_variance, ne_last_width, ne_least_change, ne_least_count, ne_least_first, ne_least_greatest, ne_least_last, ne_least_mean, ne_least_squares, ne_least_sum, ne_least_variance, ne_least_width, ne_mean_change, ne_mean_count, ne_mean_first, ne_mean_greatest, ne_mean_last, ne_mean_least, ne_mean_squares, ne_mean_sum, ne_mean_variance, ne_mean_width, ne_squares_change, ne_squares_count, ne_squares_first, ne_squares_greatest, ne_squares_last, ne_squares_least, ne_squares_mean, ne_squares_sum, ne_squares_variance, ne_squares_width, ne_sum_change, ne_sum_count, ne_sum_first, ne_sum_greatest, ne_sum_last, ne_sum_least, ne_sum_mean, ne_sum_squares, ne_sum_variance, ne_sum_width, ne_variance_change, ne_variance_count, ne_variance_first, ne_variance_greatest, ne_variance_last, ne_variance_least, ne_variance_mean, ne_variance_squares, ne_variance_sum, ne_variance_width, ne_width_change, ne_width_count, ne_width_first, ne_width_greatest, ne_width_last, ne_width_least, ne_width_mean, ne_width_squares, ne_width_sum, ne_width_variance, List.nil_append, ne, xMinL]
      refine ⟨by simp, fun v hv hle => ?_⟩
      rw [leF_uniq (m := v) (by obtain ⟨q, hq, e⟩ := List.mem_map.mp hv; exact ⟨q, hq, e⟩) (fun q hq => hle _ (List.mem_map_of_mem hq))] at h
      exact h
  · simp only [mv, ne_change_count, ne_change_first, ne_change_greatest, ne_change_last, ne_change_least, ne_change_mean, ne_change_squares, ne_change_sum, ne_change_variance, ne_change_width, ne_count_change, ne_count_first, ne_count_greatest, ne_count_last, ne_count_least, ne_count_mean, ne_count_squares, ne_count_sum, ne_count_variance, ne_count_width, ne_first_change, ne_first_count, ne_first_greatest, ne_first_last, ne_first_least, ne_first_mean, ne_first_squares, ne_first_sum, ne_first_variance, ne_first_width, ne_greatest_change, ne_greatest_count, ne_greatest_first, ne_greatest_last, ne_greatest_least, ne_greatest_mean, ne_greatest_squares, ne_greatest_sum, ne_greatest_variance, ne_greatest_width, ne_last_change, ne_last_count, ne_last_first, ne_last_greatest, ne_last_least, ne_last_mean, ne_last_squares, ne_last_sum, ne_last_variance, ne_last_width, ne_least_change, ne_least_count, ne_least_first, ne_least_greatest, ne_least_last, ne_least_mean, ne_least_squares, ne_least_sum, ne_least_variance, ne_least_width, ne_mean_change, ne_mean_count, ne_mean_first, ne_mean_greatest, ne_mean_last, ne_mean_least, ne_mean_squares, ne_mean_sum, ne_mean_variance, ne_mean_width, ne_squares_change, ne_squares_count, ne_squares_first, ne_squares_greatest, ne_squares_last, ne_squares_least, ne_squares_mean, ne_squares_sum, ne_squares_variance, ne_squares_width, ne_sum_change, ne_sum_count, ne_sum_first, ne_sum_greatest, ne_sum_last, ne_sum_least, ne_sum_mean, ne_sum_squares, ne_sum_variance, ne_sum_width, ne_variance_change, ne_variance_count, ne_variance_first, ne_variance_greatest, ne_variance_last, ne_variance_least, ne_variance_mean, ne_variance_squares, ne_variance_sum, ne_variance_width, ne_width_change, ne_width_count, ne_width_first, ne_width_greatest, ne_width_last, ne_width_least, ne_width_mean, ne_width_squares, ne_width_sum, ne_width_variance, if_true, if_false] at h
    simp! only [LA, ne_change_count, ne_change_first, ne_change_greatest, ne_change_last, ne_change_least, ne_change_mean, ne_change_squares, ne_change_sum, ne_change_variance, ne_change_width, ne_count_change, ne_count_first, ne_count_greatest, ne_count_last, ne_count_least, ne_count_mean, ne_count_squares, ne_count_sum, ne_count_variance, ne_count_width, ne_first_change, ne_first_count, ne_first_greatest, ne_first_last, ne_first_least, ne_first_mean, ne_first_squares, ne_first_sum, ne_first_variance, ne_first_width, ne_greatest_change, ne_greatest_count, ne_greatest_first, ne_greatest_last, ne_greatest_least, ne_greatest_mean, ne_greatest_squares, ne_greatest_sum, ne_greatest_variance, ne_greatest_width, ne_last_change, ne_last_count, ne_last_first, ne_last_greatest, ne_last_least, ne_last_mean, ne_last_squares, ne_last_sum, ne_last_variance, ne_last_width, ne_least_change, ne_least_count, ne_least_first, ne_least_greatest, ne_least_last, ne_least_mean, ne_least_squares, ne_least_sum, ne_least_variance, ne_least_width, ne_mean_change, ne_mean_count, ne_mean_first, ne_mean_greatest, ne_mean_last, ne_mean_least, ne_mean_squares, ne_mean_sum, ne_mean_variance, ne_mean_width, ne_squares_change, ne_squares_count, ne_squares_first, ne_squares_greatest, ne_squares_last, ne_squares_least, ne_squares_mean, ne_squares_sum, ne_squares_variance, ne_squares_width, ne_sum_change, ne_sum_count, ne_sum_first, ne_sum_greatest, ne_sum_last, ne_sum_least, ne_sum_mean, ne_sum_squares, ne_sum_variance, ne_sum_width, ne_variance_change, ne_variance_count, ne_variance_first, ne_variance_greatest, ne_variance_last, ne_variance_least, ne_variance_mean, ne_variance_squares, ne_variance_sum, ne_variance_width, ne_width_change, ne_width_count, ne_width_first, ne_width_greatest, ne_width_last, ne_width_least, ne_width_mean, ne_width_squares, ne_width_sum, ne_width_variance, List.nil_append]
    refine la_sq (y := .no) ?hs2 ps [] _ hs (by simpa using hl) ?_
    case hs2 => rfl
    simp! only [LA, List.nil_append, xSumL]
    exact h
  · simp only [mv, ne_change_count, ne_change_first, ne_change_greatest, ne_change_last, ne_change_least, ne_change_mean, ne_change_squares, ne_change_sum, ne_change_variance, ne_change_width, ne_count_change, ne_count_first, ne_count_greatest, ne_count_last, ne_count_least, ne_count_mean, ne_count_squares, ne_count_sum, ne_count_variance, ne_count_width, ne_first_change, ne_first_count, ne_first_greatest, ne_first_last, ne_first_least, ne_first_mean, ne_first_squares, ne_first_sum, ne_first_variance, ne_first_width, ne_greatest_change, ne_greatest_count, ne_greatest_first, ne_greatest_last, ne_greatest_least, ne_greatest_mean, ne_greatest_squares, ne_greatest_sum, ne_greatest_variance, ne_greatest_width, ne_last_change, ne_last_count, ne_last_first, ne_last_greatest, ne_last_least, ne_last_mean, ne_last_squares, ne_last_sum, ne_last_variance, ne_last_width, ne_least_change, ne_least_count, ne_least_first, ne_least_greatest, ne_least_last, ne_least_mean, ne_least_squares, ne_least_sum, ne_least_variance, ne_least_width, ne_mean_change, ne_mean_count, ne_mean_first, ne_mean_greatest, ne_mean_last, ne_mean_least, ne_mean_squares, ne_mean_sum, ne_mean_variance, ne_mean_width, ne_squares_change, ne_squares_count, ne_squares_first, ne_squares_greatest, ne_squares_last, ne_squares_least, ne_squares_mean, ne_squares_sum, ne_squares_variance, ne_squares_width, ne_sum_change, ne_sum_count, ne_sum_first, ne_sum_greatest, ne_sum_last, ne_sum_least, ne_sum_mean, ne_sum_squares, ne_sum_variance, ne_sum_width, ne_variance_change, ne_variance_count, ne_variance_first, ne_variance_greatest, ne_variance_last, ne_variance_least, ne_variance_mean, ne_variance_squares, ne_variance_sum, ne_variance_width, ne_width_change, ne_width_count, ne_width_first, ne_width_greatest, ne_width_last, ne_width_least, ne_width_mean, ne_width_squares, ne_width_sum, ne_width_variance, if_true, if_false] at h
    simp! only [LA, ne_change_count, ne_change_first, ne_change_greatest, ne_change_last, ne_change_least, ne_change_mean, ne_change_squares, ne_change_sum, ne_change_variance, ne_change_width, ne_count_change, ne_count_first, ne_count_greatest, ne_count_last, ne_count_least, ne_count_mean, ne_count_squares, ne_count_sum, ne_count_variance, ne_count_width, ne_first_change, ne_first_count, ne_first_greatest, ne_first_last, ne_first_least, ne_first_mean, ne_first_squares, ne_first_sum, ne_first_variance, ne_first_width, ne_greatest_change, ne_greatest_count, ne_greatest_first, ne_greatest_last, ne_greatest_least, ne_greatest_mean, ne_greatest_squares, ne_greatest_sum, ne_greatest_variance, ne_greatest_width, ne_last_change, ne_last_count, ne_last_first, ne_last_greatest, ne_last_least, ne_last_mean, ne_last_squares, ne_last_sum, ne_last_variance, ne_last_width, ne_least_change, ne_least_count, ne_least_first, ne_least_greatest, ne_least_last, ne_least_mean, ne_least_squares, ne_least_sum, ne_least_variance, ne_least_width, ne_mean_change, ne_mean_count, ne_mean_first, ne_mean_greatest, ne_mean_last, ne_mean_least, ne_mean_squares, ne_mean_sum, ne_mean_variance, ne_mean_width, ne_squares_change, ne_squares_count, ne_squares_first, ne_squares_greatest, ne_squares_last, ne_squares_least, ne_squares_mean, ne_squares_sum, ne_squares_variance, ne_squares_width, ne_sum_change, ne_sum_count, ne_sum_first, ne_sum_greatest, ne_sum_last, ne_sum_least, ne_sum_mean, ne_sum_squares, ne_sum_variance, ne_sum_width, ne_variance_change, ne_variance_count, ne_variance_first, ne_variance_greatest, ne_variance_last, ne_variance_least, ne_variance_mean, ne_variance_squares, ne_variance_sum, ne_variance_width, ne_width_change, ne_width_count, ne_width_first, ne_width_greatest, ne_width_last, ne_width_least, ne_width_mean, ne_width_squares, ne_width_sum, ne_width_variance, List.nil_append, xSumL]
    exact h
theorem law_first_an {r : Rl} (o : RlOk r) {now : Int} (h0 : 0 ≤ now) : Ans fn_p_law_first [r.D, .int now] (.int (r.first now)) := fun μ R h => by
  show Φ_p_law_first _ ⟨[.d r.D, .d (.int now)], μ⟩
  unfold Rl.D Rl.first at *
  cases ha : r.raw with
  | none =>
    rw [ha] at h
    simp! only [Φ_p_law_first, vD]
    exact h
  | some a =>
    have a0 := (o.a0 a ha).1
    rw [ha] at h
    simp! only [Φ_p_law_first, vD]
    by_cases e : now < a
    · simp! only [e]
      have : max2I 0 (now + 1 - a) = 0 := by unfold max2I; split <;> omega
      simp only [this] at h
      exact h
    · simp! only [e]
      have : max2I 0 (now + 1 - a) = now - a + 1 := by unfold max2I; split <;> omega
      simp only [this] at h
      exact h
/-! cells -/
theorem lc_in {x0 x1 x2 x4 x5 x6 : Sl} {i : Nat} {s0 : S} {y : Sl} (hs0 : get s0.ρ 7 = y) {RE : Sl → S → Prop} : ∀ (cs : List Nat) (acc : List (Nat × Nat)) (x : Sl), acc.length + cs.length < 1000000 →
    RE (.l ((acc ++ cs.map fun c => (i, c)).map cD)) ⟨[x0, x1, x2, .d (.int i), x4, x5, x6, keepD y], μ⟩ →
    lcL [7] s0 (gN 7) (fun s R => R true s) E_p_law_cells_1 RE (cs.map fun c : Nat => DL.D.int c) (acc.map cD) ⟨[x0, x1, x2, .d (.int i), x4, x5, x6, x], μ⟩
  | [], acc, x, _, h => by
    simp! only [List.map_nil, lcL_nil, zbck, hs0]
    simpa using h
  | c :: cs, acc, x, hl, h => by
    have big : 1000000 < sizeLine := by decide
    simp only [List.length_cons] at hl
    have ih := lc_in (x0 := x0) (x1 := x1) (x2 := x2) (x4 := x4) (x5 := x5) (x6 := x6) (i := i) hs0 (RE := RE) cs (acc ++ [(i, c)]) .no (by simp; omega) (by rw [List.append_assoc]; exact h)
    simp! only [List.map_cons, lcL_cons, E_p_law_cells_1_eq]
    rw [List.map_append] at ih
    exact ⟨h2', by rw [List.length_map]; omega, ih⟩
def lowOf (k : Kp) (now : Int) : Int := match k.age with
  | none => 0
  | some a => if a ≤ now then (now - a) / k.g else 0
theorem low_eq {k : Kp} (o : KpOk k) {now : Int} : lowOf k now = k.first now := by
  unfold lowOf Kp.first
  cases ha : k.age with
  | none => rfl
  | some a =>
    have hg := o.g1
    show (if a ≤ now then (now - a) / k.g else 0) = max2I 0 ((now - a) / k.g)
    by_cases e : a ≤ now
    · have : 0 ≤ (now - a) / k.g := Int.ediv_nonneg (by omega) (by omega)
      rw [if_pos e]
      unfold max2I
      split <;> omega
    · have : (now - a) / k.g < 0 := Int.ediv_neg_of_neg_of_pos (by omega) (by omega)
      rw [if_neg e]
      unfold max2I
      split <;> omega
theorem lcells_loop {r : Rl} (ro : RlOk r) {now : Int} (h0 : 0 ≤ now) (h1 : now ≤ 100000) : ∀ (ks pre : List Kp) (acc : List (Nat × Nat)) (x3 x4 x5 x6 x7 : Sl), r.ks = pre ++ ks → acc.length + ks.length * 100001 < 1000000 →
    (∀ x3 x4 x5 x6 x7, Δ.nx ⟨[.d r.D, .d (.int now), .l ((acc ++ cellsL now pre.length ks).map cD), x3, x4, x5, x6, x7], μ⟩) →
    forL (gN 3) B_p_law_cells_2 Δ ((List.range' pre.length ks.length).map fun i : Nat => DL.D.int i) ⟨[.d r.D, .d (.int now), .l (acc.map cD), x3, x4, x5, x6, x7], μ⟩
  | [], pre, acc, x3, x4, x5, x6, x7, e, hl, h => by
    have := h x3 x4 x5 x6 x7
    simp only [cellsL, List.append_nil] at this
    exact this
  | k :: ks, pre, acc, x3, x4, x5, x6, x7, e, hl, h => by
    have big : 1000000 < sizeLine := by decide
    have hk : r.ks[pre.length]? = some k := by rw [e]; simp
    have o := ro.ks k (by rw [e]; simp)
    have kl := kcells_len o h0 h1
    obtain ⟨f0, f1⟩ := first_le o h0
    obtain ⟨d0, d1⟩ := div_le h0 o.g1
    simp only [List.length_cons] at hl
    have eD : r.D = .tup [vD r.raw, .tup (r.ks.map Kp.D)] := rfl
    have ek : k.D = .tup [.int k.g, .tup (k.ms.map DL.D.str), vD k.age] := rfl
    have ea : atD (r.ks.map Kp.D) ((pre.length : Nat) : Int) = some k.D := by show (r.ks.map Kp.D)[pre.length]? = _; rw [List.getElem?_map, hk]; rfl
    have ih := lcells_loop ro h0 h1 ks (pre ++ [k]) (acc ++ (k.cells now).map fun c => (pre.length, c))
    rw [List.length_cons, List.range'_succ]
    have fin : ∀ x5, (∀ x3 x4 x5 x6 x7, Δ.nx ⟨[.d r.D, .d (.int now), .l ((acc ++ (k.cells now).map (fun c => (pre.length, c)) ++ cellsL now (pre.length + 1) ks).map cD), x3, x4, x5, x6, x7], μ⟩) →
        sSet 2 (eOp oAdd (eV 2) (eLc (iR2 (aCons (eV 6) (aCons (eOp oAdd (eOp oDiv (eV 1) (eV 4)) (eC (.int 1))) (aNil)))) [7] (gN 7) (fun s R => R true s) (E_p_law_cells_1))) ⟨forL (gN 3) B_p_law_cells_2 Δ ((List.range' (pre.length + 1) ks.length).map fun i : Nat => DL.D.int i), Δ.rt, Δ.nx, forL (gN 3) B_p_law_cells_2 Δ ((List.range' (pre.length + 1) ks.length).map fun i : Nat => DL.D.int i)⟩
          ⟨[.d r.D, .d (.int now), .l (acc.map cD), .d (.int (pre.length : Nat)), .d (.int k.g), .d x5, .d (.int (k.first now)), x7], μ⟩ := fun x5 hh => by
      simp! only []
      refine ⟨g_div o.g1 o.g2 _, ⟨by omega, by omega, by omega, by omega⟩, ?_⟩
      rw [rng_from _ f0]
      refine lc_in (y := x7) ?hs (k.cells now) [] _ (by simp; omega) ?_
      case hs => rfl
      simp! only [List.nil_append, List.length_map]
      refine ⟨by omega, ?_⟩
      rw [← List.map_append]
      have := ih (.d (.int (pre.length : Nat))) (.d (.int k.g)) (.d x5) (.d (.int (k.first now))) (keepD x7) (by rw [e]; simp) (by simp; omega)
      rw [List.length_append, List.length_singleton] at this
      exact this hh
    have hh : ∀ x3 x4 x5 x6 x7, Δ.nx ⟨[.d r.D, .d (.int now), .l ((acc ++ (k.cells now).map (fun c => (pre.length, c)) ++ cellsL now (pre.length + 1) ks).map cD), x3, x4, x5, x6, x7], μ⟩ := fun x3 x4 x5 x6 x7 => by
      have := h x3 x4 x5 x6 x7
      simp only [cellsL] at this
      rw [List.append_assoc]
      exact this
    have le := low_eq o (now := now)
    unfold lowOf at le
    simp! only [List.map_cons, forL_cons, B_p_law_cells_2_eq]
    rw [eD]
    simp! only [ea, ek, I_p_law_cells_0_eq]
    rw [← eD]
    cases ha : k.age with
    | none =>
      rw [ha] at le
      have fin := fin .non hh
      rw [← le] at fin
      simp! only [vD] at fin ⊢
      exact fin
    | some a =>
      rw [ha] at le
      by_cases e : a ≤ now
      · have fin := fin (.int a) hh
        rw [← le] at fin
        simp! only [vD, e] at fin ⊢
        exact ⟨g_div o.g1 o.g2 _, fin⟩
      · have fin := fin (.int a) hh
        rw [← le] at fin
        simp! only [vD, e] at fin ⊢
        exact fin
theorem law_cells_an {r : Rl} (ro : RlOk r) {now : Int} (h0 : 0 ≤ now) (h1 : now ≤ 100000) : Ans fn_p_law_cells [r.D, .int now] (.tup ((cellsL now 0 r.ks).map cD)) := fun μ R h => by
  show Φ_p_law_cells _ ⟨[.d r.D, .d (.int now), .no, .no, .no, .no, .no, .no], μ⟩
  have eD : r.D = .tup [vD r.raw, .tup (r.ks.map Kp.D)] := rfl
  simp! only [Φ_p_law_cells]
  rw [eD]
  simp! only [List.length_map]
  rw [← eD]
  have := ro.few
  refine ⟨Nat.zero_le _, ⟨by omega, by omega⟩, ?_⟩
  rw [rng_nat, Int.toNat_natCast]
  refine lcells_loop ro h0 h1 r.ks [] [] _ _ _ _ _ rfl (by simp; omega) fun x3 x4 x5 x6 x7 => ?_
  simp! only [List.nil_append]
  exact h
end
end K20
namespace K20
open PySem PySem.Spec PyProof.Rows L2 DL
variable [Wd]
section
variable {μ : Mu} {R : Sl → Mu → Prop} {w : DL.D} {Δ : DE}
/-! facts -/
abbrev LF (r : Rl) (now : Int) (ps : List Pt) (x3 x4 x5 x6 x7 x8 : Sl) (μ : Mu) : S := ⟨[.d r.D, .d (.int now), .d (.tup (ps.map pD)), x3, x4, x5, x6, x7, x8], μ⟩
theorem lf_lc {r : Rl} {now : Int} {k : Kp} (o : KpOk k) {all : List Pt} {i c : Nat} {x3 x6 x7 : Sl} {s0 : S} {y : Sl} (hs0 : get s0.ρ 8 = y) {RE : Sl → S → Prop} : ∀ (ps : List Pt) (acc : List Pt) (x : Sl), acc.length + ps.length < 1000000 →
    RE (.l ((acc ++ ps.filter (inC k.g c)).map pD)) (LF r now all x3 (.d (cD (i, c))) (.d k.D) x6 x7 (keepD y) μ) →
    lcL [8] s0 (gN 8) T_p_law_facts_1 E_p_law_facts_0 RE (ps.map pD) (acc.map pD) (LF r now all x3 (.d (cD (i, c))) (.d k.D) x6 x7 x μ)
  | [], acc, x, _, h => by
    simp! only [LF, List.map_nil, lcL_nil, zbck, hs0] at h ⊢
    simpa using h
  | p :: ps, acc, x, hl, h => by
    have big : 1000000 < sizeLine := by decide
    simp only [List.length_cons] at hl
    have ek : k.D = .tup [.int k.g, .tup (k.ms.map DL.D.str), vD k.age] := rfl
    simp! only [LF, List.map_cons, lcL_cons, T_p_law_facts_1_eq, E_p_law_facts_0_eq, pD, cD, ek]
    refine ⟨g_div o.g1 o.g2 _, ?_⟩
    by_cases e : p.1 / k.g = (c : Int)
    · have ih := lf_lc (r := r) (now := now) o (all := all) (i := i) (c := c) (x3 := x3) (x6 := x6) (x7 := x7) hs0 (RE := RE) ps (acc ++ [p]) .no (by simp; omega) (by rw [List.filter_cons_of_pos (by simpa [inC] using e)] at h; simpa [List.append_assoc] using h)
      simp! only [e, List.length_map]
      rw [List.map_append] at ih
      exact ⟨by omega, ih⟩
    · have ih := lf_lc (r := r) (now := now) o (all := all) (i := i) (c := c) (x3 := x3) (x6 := x6) (x7 := x7) hs0 (RE := RE) ps acc .no (by omega) (by rw [List.filter_cons_of_neg (by simpa [inC] using e)] at h; exact h)
      simp! only [e]
      exact ih
theorem lf_in {r : Rl} {now : Int} {all q : List Pt} (oq : Ok q) {i c : Nat} {x5 x8 : Sl} : ∀ (ms : List Str) (acc : List Fc) (x6 x7 : Sl), (∀ m ∈ ms, m ∈ meas) → (x6 = .l (q.map pD) ∨ x6 = .d (.lst (q.map pD))) → acc.length + ms.length < 10000000 →
    (∀ x6 x7, Δ.nx (LF r now all (.l ((acc ++ ms.map fun m => (i, c, m, mv m q)).map fD)) (.d (cD (i, c))) x5 x6 x7 x8 μ)) →
    forL (gN 7) B_p_law_facts_2 Δ (ms.map DL.D.str) (LF r now all (.l (acc.map fD)) (.d (cD (i, c))) x5 x6 x7 x8 μ)
  | [], acc, x6, x7, _, _, _, h => by
    have := h x6 x7
    simp only [List.map_nil, List.append_nil] at this
    exact this
  | m :: ms, acc, x6, x7, hm, hx, hl, h => by
    have big : 10000000 < sizeLine := by decide
    simp only [List.length_cons] at hl
    have ih := lf_in (r := r) (now := now) (all := all) oq (i := i) (c := c) (x5 := x5) (x8 := x8) ms (acc ++ [(i, c, m, mv m q)]) (.d (.lst (q.map pD))) (.d (.str m)) (fun m' h' => hm m' (List.mem_cons_of_mem _ h')) (.inr rfl) (by simp; omega) (fun a b => by simpa [List.append_assoc] using h a b)
    rw [List.map_append] at ih
    rcases hx with rfl | rfl <;>
    · simp! only [LF, List.map_cons, forL_cons, B_p_law_facts_2_eq, cD]
      refine (law_answer_an oq.sm (by have := oq.few; omega) (hm m (List.mem_cons_self ..))).go ?_
      simp! only [List.length_map]
      exact ⟨h2', by decide, by omega, ih⟩
def factsAt (r : Rl) (ps : List Pt) (q : Nat × Nat) : List Fc := match r.ks[q.1]? with
  | some k => cellF q.1 k ps q.2
  | none => []
theorem lf_loop {r : Rl} (o : RlOk r) {now : Int} {ps : List Pt} (op : Ok ps) : ∀ (pl : List (Nat × Nat)) (acc : List Fc) (x4 x5 x6 x7 x8 : Sl), (∀ q ∈ pl, q.1 < r.ks.length) → acc.length + pl.length * 10 < 10000000 →
    (∀ x4 x5 x6 x7 x8, Δ.nx (LF r now ps (.l ((acc ++ pl.flatMap (factsAt r ps)).map fD)) x4 x5 x6 x7 x8 μ)) →
    forL (gN 4) B_p_law_facts_3 Δ (pl.map cD) (LF r now ps (.l (acc.map fD)) x4 x5 x6 x7 x8 μ)
  | [], acc, x4, x5, x6, x7, x8, _, _, h => by
    have := h x4 x5 x6 x7 x8
    simp only [List.flatMap_nil, List.append_nil] at this
    exact this
  | q :: pl, acc, x4, x5, x6, x7, x8, hq, hl, h => by
    simp only [List.length_cons] at hl
    obtain ⟨i, c⟩ := q
    have hi : i < r.ks.length := hq (i, c) (List.mem_cons_self ..)
    obtain ⟨k, hk, hmem⟩ : ∃ k, r.ks[i]? = some k ∧ k ∈ r.ks := ⟨r.ks[i], List.getElem?_eq_getElem hi, List.getElem_mem hi⟩
    have ok := o.ks k hmem
    have eD : r.D = .tup [vD r.raw, .tup (r.ks.map Kp.D)] := rfl
    have ek : k.D = .tup [.int k.g, .tup (k.ms.map DL.D.str), vD k.age] := rfl
    have ea : atD (r.ks.map Kp.D) ((i : Nat) : Int) = some k.D := by show (r.ks.map Kp.D)[i]? = _; rw [List.getElem?_map, hk]; rfl
    have fa : factsAt r ps (i, c) = cellF i k ps c := by unfold factsAt; rw [hk]
    have fl : (cellF i k ps c).length ≤ 10 := by simpa [cellF] using ok.fw
    simp! only [LF, List.map_cons, forL_cons, B_p_law_facts_3_eq]
    rw [eD, show cD (i, c) = .tup [.int (i : Nat), .int (c : Nat)] from rfl]
    simp! only [ea]
    rw [← eD]
    refine lf_lc (y := x8) (k := k) (i := i) (c := c) ok ?hs ps [] _ (by have := op.few; simp; omega) ?_
    case hs => rfl
    simp! only [LF, List.nil_append, ek]
    rw [← ek]
    refine lf_in (op.filter (f := inC k.g c)) k.ms acc _ _ ok.ms (.inl rfl) (by have := ok.fw; omega) fun x6 x7 => ?_
    refine lf_loop o op pl (acc ++ cellF i k ps c) _ _ _ _ _ (fun z hz => hq z (List.mem_cons_of_mem _ hz)) (by rw [List.length_append]; omega) fun x4 x5 x6 x7 x8 => ?_
    have := h x4 x5 x6 x7 x8
    rw [List.flatMap_cons, fa, ← List.append_assoc] at this
    exact this
theorem facts_at {r : Rl} {ps : List Pt} {now : Int} : ∀ (ks pre : List Kp), r.ks = pre ++ ks → (cellsL now pre.length ks).flatMap (factsAt r ps) = factsL ps now pre.length ks
  | [], _, _ => rfl
  | k :: ks, pre, e => by
    have ih := facts_at (r := r) (ps := ps) (now := now) ks (pre ++ [k]) (by rw [e]; simp)
    rw [List.length_append, List.length_singleton] at ih
    show ((k.cells now).map (fun c => (pre.length, c)) ++ cellsL now (pre.length + 1) ks).flatMap (factsAt r ps) = (k.cells now).flatMap (cellF pre.length k ps) ++ factsL ps now (pre.length + 1) ks
    rw [List.flatMap_append, ih]
    congr 1
    rw [List.flatMap_map]
    congr 1
    funext c
    unfold factsAt
    rw [e]
    simp
theorem cellsL_in {now : Int} : ∀ (ks : List Kp) (i : Nat), ∀ q ∈ cellsL now i ks, i ≤ q.1 ∧ q.1 < i + ks.length
  | [], _, q, h => by cases h
  | k :: ks, i, q, h => by
    rcases List.mem_append.mp h with h | h
    · obtain ⟨c, _, rfl⟩ := List.mem_map.mp h
      simp
    · have := cellsL_in ks (i + 1) q h
      simp only [List.length_cons]
      omega
theorem cellsL_len {now : Int} (h0 : 0 ≤ now) (h1 : now ≤ 100000) : ∀ (ks : List Kp) (i : Nat), (∀ k ∈ ks, KpOk k) → (cellsL now i ks).length ≤ ks.length * 100001
  | [], _, _ => by simp [cellsL]
  | k :: ks, i, h => by
    have := kcells_len (h k (List.mem_cons_self ..)) h0 h1
    have := cellsL_len h0 h1 ks (i + 1) fun q hq => h q (List.mem_cons_of_mem _ hq)
    simp only [cellsL, List.length_append, List.length_map, List.length_cons]
    omega
theorem law_facts_an {r : Rl} (o : RlOk r) {now : Int} (h0 : 0 ≤ now) (h1 : now ≤ 100000) {ps : List Pt} (op : Ok ps) : Ans fn_p_law_facts [r.D, .int now, .tup (ps.map pD)] (.tup ((factsL ps now 0 r.ks).map fD)) := fun μ R h => by
  show Φ_p_law_facts _ (LF r now ps .no .no .no .no .no .no μ)
  have fe := op.few
  have cl := cellsL_len h0 h1 r.ks 0 o.ks
  simp! only [Φ_p_law_facts, LF]
  refine ⟨Nat.zero_le _, ?_⟩
  refine (law_cells_an o h0 h1).go ?_
  simp! only []
  refine lf_loop o op _ [] _ _ _ _ _ (fun q hq => by have := cellsL_in r.ks 0 q hq; omega) (by have := o.few; simp; omega) fun x4 x5 x6 x7 x8 => ?_
  have fa := facts_at (r := r) (ps := ps) (now := now) r.ks [] rfl
  rw [List.length_nil] at fa
  rw [List.nil_append, fa]
  simp! only [LF]
  exact h
/-! the same -/
/-- atoms, and tuples of such, n deep -/
def TD : Nat → DL.D → Prop
  | _, .non => True
  | _, .bl _ => True
  | _, .int _ => True
  | _, .str _ => True
  | n + 1, .tup ds => ds.length < 10000000 ∧ ∀ d ∈ ds, TD n d
  | _, _ => False
theorem same_lc {F : FD} {D1 : DL.D} {s0 : S} {y : Sl} (hs0 : get s0.ρ 2 = y) {all : List DL.D} (hF : ∀ d ∈ all, Ans F [d, d] (.bl true)) {RE : Sl → S → Prop} : ∀ (k i : Nat) (x : Sl), i + k = all.length → all.length < 10000000 →
    RE (.l ((List.replicate all.length true).map DL.D.bl)) ⟨[.d (.tup all), .d (.tup all), keepD y], μ⟩ →
    lcL [2] s0 (gN 2) (fun s R => R true s) (E_p_law_same_0 F) RE ((List.range' i k).map fun i : Nat => DL.D.int (i : Int)) ((List.replicate i true).map DL.D.bl) ⟨[.d (.tup all), .d (.tup all), x], μ⟩
  | 0, i, x, e, hl, h => by
    simp! only [List.range'_zero, List.map_nil, lcL_nil, zbck, hs0]
    have : i = all.length := by omega
    rw [this]
    exact h
  | k + 1, i, x, e, hl, h => by
    have big : 10000000 < sizeLine := by decide
    have ih := same_lc (F := F) (D1 := D1) hs0 hF (RE := RE) k (i + 1) .no (by omega) hl h
    obtain ⟨d, hd, hm⟩ : ∃ d, atD all ((i : Nat) : Int) = some d ∧ d ∈ all := ⟨all[i], List.getElem?_eq_getElem (by omega), List.getElem_mem (by omega)⟩
    rw [List.range'_succ]
    simp! only [List.map_cons, lcL_cons, E_p_law_same_0_eq, hd]
    refine (hF d hm).go ?_
    simp! only []
    rw [List.replicate_succ', List.map_append] at ih
    exact ⟨by rw [List.length_map, List.length_replicate]; omega, ih⟩
theorem asBls_map : ∀ bs : List Bool, asBls (bs.map DL.D.bl) = some bs
  | [] => rfl
  | b :: bs => by show (asBls (bs.map DL.D.bl)).map (b :: ·) = _; rw [asBls_map bs]; rfl
theorem same_an : ∀ (n : Nat) (d : DL.D), TD n d → Ans (fn_p_law_same (n + 1)) [d, d] (.bl true)
  | n, .non, _ => fun μ R h => by
    show Φ_p_law_same (fn_p_law_same n) _ ⟨[.d .non, .d .non, .no], μ⟩
    simp! only [Φ_p_law_same]
    exact h
  | n, .bl b, _ => fun μ R h => by
    show Φ_p_law_same (fn_p_law_same n) _ ⟨[.d (.bl b), .d (.bl b), .no], μ⟩
    simp! only [Φ_p_law_same, beq_self_eq_true]
    exact h
  | n, .int i, _ => fun μ R h => by
    show Φ_p_law_same (fn_p_law_same n) _ ⟨[.d (.int i), .d (.int i), .no], μ⟩
    simp! only [Φ_p_law_same]
    show Φ_p_law_int _ ⟨[.d (.int i)], μ⟩
    simp! only [Φ_p_law_int]
    exact h
  | n, .str x, _ => fun μ R h => by
    show Φ_p_law_same (fn_p_law_same n) _ ⟨[.d (.str x), .d (.str x), .no], μ⟩
    simp! only [Φ_p_law_same]
    exact h
  | n + 1, .tup ds, ⟨hl, hd⟩ => fun μ R h => by
    show Φ_p_law_same (fn_p_law_same (n + 1)) _ ⟨[.d (.tup ds), .d (.tup ds), .no], μ⟩
    simp! only [Φ_p_law_same]
    refine ⟨⟨by omega, by omega⟩, ?_⟩
    rw [rng_nat, Int.toNat_natCast]
    refine same_lc (D1 := .non) (y := .no) ?hs (fun d hd' => same_an n d (hd d hd')) ds.length 0 _ (by omega) hl ?_
    case hs => rfl
    simp! only [xAll (asBls_map _)]
    have : (List.replicate ds.length true).all id = true := by simp
    rw [this]
    exact h
  | 0, .tup ds, h => h.elim
  | 0, .lst _, h => h.elim
  | 0, .ty _, h => h.elim
  | 0, .ref _, h => h.elim
  | 0, .dic _ _, h => h.elim
  | 0, .dit _ _, h => h.elim
  | 0, .dlr, h => h.elim
  | 0, .tpl _, h => h.elim
  | 0, .mch _, h => h.elim
  | n + 1, .lst _, h => h.elim
  | n + 1, .ty _, h => h.elim
  | n + 1, .ref _, h => h.elim
  | n + 1, .dic _ _, h => h.elim
  | n + 1, .dit _ _, h => h.elim
  | n + 1, .dlr, h => h.elim
  | n + 1, .tpl _, h => h.elim
  | n + 1, .mch _, h => h.elim
/-! draws -/
theorem pick_ok {ds : List DL.D} (h0 : ds ≠ []) (h1 : ds.length < 1000000) (h : ∀ d ∈ ds, R (.d d) μ) : fn_p_law_pick [.mch Wd.w, .tup ds] μ R := by
  show Φ_p_law_pick _ ⟨[.d (.mch Wd.w), .d (.tup ds)], μ⟩
  have : 0 < ds.length := List.length_pos_iff.mpr h0
  simp! only [Φ_p_law_pick]
  refine deck_ok (by omega) (by omega) fun d d0 d1 => ?_
  simp! only []
  obtain ⟨x, hx, e⟩ := pickD d0 d1
  rw [e]
  exact h x hx
theorem names_an : Ans fn_p_law_names [] (.tup (meas.map DL.D.str)) := fun μ R h => by
  show Φ_p_law_names _ ⟨[], μ⟩
  simp! only [Φ_p_law_names]
  exact ⟨by decide, h⟩
end
end K20
namespace K20
open PySem PySem.Spec PyProof.Rows L2 DL
variable [Wd]
structure MsOk (ms : List Str) : Prop where
  mm : ∀ m ∈ ms, m ∈ meas
  asc : ms.Pairwise fun a b => slt a b = true
  ne : ms ≠ []
  fw : ms.length ≤ 10
def nm (i : Nat) : Str := meas.getD i ""
def bitB (b : Int) (i : Nat) : Bool := decide (b / 2 ^ i % 2 = 1)
theorem meas_asc : meas.Pairwise fun a b => slt a b = true := by
  decide +kernel
theorem nm_all : (List.range' 0 7).map nm = meas := by decide +kernel
theorem ms_sel (b : Int) (h0 : 1 ≤ b) (h1 : b ≤ 127) : MsOk (((List.range' 0 7).filter (bitB b)).map nm) := by
  have sub : (((List.range' 0 7).filter (bitB b)).map nm).Sublist meas := by
    rw [← nm_all]
    exact List.filter_sublist.map _
  refine ⟨fun m hm => sub.subset hm, meas_asc.sublist sub, fun e => ?_, Nat.le_trans sub.length_le (by decide)⟩
  rw [List.map_eq_nil_iff, List.filter_eq_nil_iff] at e
  have g : ∀ i, i < 7 → ¬ b / 2 ^ i % 2 = 1 := fun i hi => by
    have := e i (List.mem_range'_1.mpr ⟨by omega, by omega⟩)
    simpa [bitB] using this
  have g0 := g 0 (by decide)
  have g1 := g 1 (by decide)
  have g2 := g 2 (by decide)
  have g3 := g 3 (by decide)
  have g4 := g 4 (by decide)
  have g5 := g 5 (by decide)
  have g6 := g 6 (by decide)
  simp only [Int.reducePow, Int.pow_zero, Int.pow_succ] at g0 g1 g2 g3 g4 g5 g6
  omega
section
variable {μ : Mu} {R : Sl → Mu → Prop} {w : DL.D} {Δ : DE}
theorem ms_lc {A B : DL.D} {b : Int} {s0 : S} {y : Sl} (hs0 : get s0.ρ 3 = y) {RE : Sl → S → Prop} : ∀ (k i : Nat) (acc : List Str) (x : Sl), i + k = 7 → acc.length + k < 100 →
    RE (.l ((acc ++ ((List.range' i k).filter (bitB b)).map nm).map DL.D.str)) ⟨[.d A, .d B, .d (.int b), keepD y], μ⟩ →
    lcL [3] s0 (gN 3) T_p_law_measures_1 E_p_law_measures_0 RE ((List.range' i k).map fun i : Nat => DL.D.int (i : Int)) (acc.map DL.D.str) ⟨[.d A, .d B, .d (.int b), x], μ⟩
  | 0, i, acc, x, _, _, h => by
    simp! only [List.range'_zero, List.map_nil, lcL_nil, zbck, hs0]
    simpa using h
  | k + 1, i, acc, x, e, hl, h => by
    have big : 100 < sizeLine := by decide
    obtain ⟨n, hn⟩ : ∃ n : Int, n = 2 ^ i := ⟨_, rfl⟩
    have hat : atD [DL.D.int 1, .int 2, .int 4, .int 8, .int 16, .int 32, .int 64] ((i : Nat) : Int) = some (.int n) ∧ atD (meas.map DL.D.str) ((i : Nat) : Int) = some (.str (nm i)) ∧ (0 < n ∧ n < 100) := by
      have : i = 0 ∨ i = 1 ∨ i = 2 ∨ i = 3 ∨ i = 4 ∨ i = 5 ∨ i = 6 := by omega
      subst hn
      rcases this with rfl | rfl | rfl | rfl | rfl | rfl | rfl <;> exact ⟨rfl, rfl, by decide, by decide⟩
    rw [List.range'_succ] at h ⊢
    simp! only [List.map_cons, lcL_cons, T_p_law_measures_1_eq, E_p_law_measures_0_eq, hat.1]
    refine ⟨by decide, ⟨hat.2.2.1, .inl (by have := hat.2.2.2; omega)⟩, by decide, ?_⟩
    by_cases hb : b / n % 2 = 1
    · have ih := ms_lc (A := A) (B := B) (b := b) hs0 (RE := RE) k (i + 1) (acc ++ [nm i]) .no (by omega) (by simp; omega) (by rw [List.filter_cons_of_pos (by simpa [bitB, hn] using hb)] at h; simpa [List.append_assoc] using h)
      simp! only [hb]
      refine ⟨rfl, names_an.go ?_⟩
      simp! only [hat.2.1, List.length_map]
      rw [List.map_append] at ih
      exact ⟨by omega, ih⟩
    · have ih := ms_lc (A := A) (B := B) (b := b) hs0 (RE := RE) k (i + 1) acc .no (by omega) (by omega) (by rw [List.filter_cons_of_neg (by simpa [bitB, hn] using hb)] at h; exact h)
      simp! only [hb]
      exact ih
theorem measures_ok (h : ∀ ms : List Str, MsOk ms → R (.d (.tup (ms.map DL.D.str))) μ) : fn_p_law_measures [.mch Wd.w] μ R := by
  show Φ_p_law_measures _ ⟨[.d (.mch Wd.w), .no, .no, .no], μ⟩
  simp! only [Φ_p_law_measures]
  refine deck_ok (by decide) (by decide) fun s s0 s1 => ?_
  simp! only []
  by_cases e : s < 2
  · rw [if_pos e]
    refine ⟨rfl, names_an.go ?_⟩
    simp! only []
    exact h _ ⟨fun m hm => hm, meas_asc, by simp [meas], by decide⟩
  rw [if_neg e]
  by_cases e2 : s = 2
  · rw [if_pos e2]
    refine ⟨rfl, names_an.go ?_⟩
    simp! only []
    refine pick_ok (by simp [meas]) (by decide) fun d hd => ?_
    obtain ⟨m, hm, rfl⟩ := List.mem_map.mp hd
    simp! only []
    exact ⟨by decide, h [m] ⟨fun x hx => by rw [List.mem_singleton.mp hx]; exact hm, by simp, by simp, by simp⟩⟩
  rw [if_neg e2]
  refine deck_ok (by decide) (by decide) fun b b0 b1 => ?_
  simp! only []
  refine ⟨⟨by decide, by decide⟩, ?_⟩
  rw [rng_nat]
  refine ms_lc (y := .no) ?hs 7 0 [] _ rfl (by decide) ?_
  case hs => rfl
  simp! only [List.nil_append]
  exact h _ (ms_sel _ (by omega) (by omega))
/-! the rule -/
theorem rule_step {now : Int} (n0 : 0 ≤ now) (n1 : now ≤ 100000) {ks : List Kp} (hl : ks.length < 6) {x3 x4 x5 x6 : Sl} (h : ∀ k x4 x5, KpOk k → Δ.nx ⟨[.d (.mch Wd.w), .d (.int now), .l (ks.map Kp.D ++ [k.D]), x3, x4, x5, x6], μ⟩) :
    B_p_law_rule_1 Δ ⟨[.d (.mch Wd.w), .d (.int now), .l (ks.map Kp.D), x3, x4, x5, x6], μ⟩ := by
  have big : 100 < sizeLine := by decide
  have fin : ∀ (g : Int) (a : Option Int), 1 ≤ g → g ≤ 1000 → (∀ i, a = some i → 0 ≤ i ∧ i ≤ 10000) → fn_p_law_measures [.mch Wd.w] μ fun r μ' => fz r ⟨[.d (.mch Wd.w), .d (.int now), .l (ks.map Kp.D), x3, .d (.int g), .d (vD a), x6], μ'⟩ fun d s2 => (eV 5) s2 fun r s1 => fz r s1 fun d1 s2 => aNil s2 fun ds s3 => (.int g :: d :: d1 :: ds : List DL.D).length ≤ sizeLine ∧ fz (.d (.tup (.int g :: d :: d1 :: ds))) s3 fun d2 s2 => appk (get s2.ρ 2) 2 d2 s2 Δ.nx := fun g a g1 g2 ha => by
    refine measures_ok fun ms mo => ?_
    simp! only [List.length_map]
    exact ⟨h3', by omega, h ⟨g, ms, a⟩ _ _ ⟨g1, g2, mo.mm, mo.asc, mo.ne, mo.fw, ha⟩⟩
  have age : ∀ {a b c : Int} {d : DL.D}, (0 ≤ a ∧ a < 31) → (0 ≤ b ∧ b < 31) → (0 ≤ c ∧ c < 10001) → d ∈ [DL.D.non, .int a, .int b, .int c] → ∃ o : Option Int, d = vD o ∧ ∀ i, o = some i → 0 ≤ i ∧ i ≤ 10000 := fun {a b c d} ha hb hc hd => by
    simp only [List.mem_cons, List.not_mem_nil, or_false] at hd
    rcases hd with rfl | rfl | rfl | rfl
    · exact ⟨none, rfl, fun i e => by cases e⟩
    · exact ⟨some a, rfl, fun i e => by cases e; omega⟩
    · exact ⟨some b, rfl, fun i e => by cases e; omega⟩
    · exact ⟨some c, rfl, fun i e => by cases e; omega⟩
  simp! only [B_p_law_rule_1_eq]
  refine deck_ok (by decide) (by decide) fun g g0 g1 => ?_
  simp! only []
  refine deck_ok (by decide) (by decide) fun a a0 a1 => ?_
  simp! only []
  refine deck_ok (by decide) (by decide) fun b b0 b1 => ?_
  simp! only []
  refine deck_ok (by decide) (by decide) fun c c0 c1 => ?_
  simp! only []
  refine ⟨by decide, ?_⟩
  refine pick_ok (by simp) (by simp) fun d hd => ?_
  obtain ⟨o, rfl, ho⟩ := age ⟨a0, a1⟩ ⟨b0, b1⟩ ⟨c0, c1⟩ hd
  simp! only [I_p_law_rule_0_eq]
  by_cases e : 40 < now
  · rw [if_pos e]
    refine deck_ok (by decide) (by decide) fun p p0 p1 => ?_
    simp! only []
    refine deck_ok (by decide) (by decide) fun q q0 q1 => ?_
    simp! only []
    refine deck_ok (by decide) (by decide) fun r r0 r1 => ?_
    simp! only []
    refine ⟨by decide, ?_⟩
    refine pick_ok (by simp) (by simp) fun d hd => ?_
    obtain ⟨g', rfl, g1', g2'⟩ : ∃ g' : Int, d = .int g' ∧ 1 ≤ g' ∧ g' ≤ 1000 := by
      simp only [List.mem_cons, List.not_mem_nil, or_false] at hd
      rcases hd with rfl | rfl | rfl | rfl <;> exact ⟨_, rfl, by omega, by omega⟩
    simp! only []
    refine deck_ok (by decide) (by decide) fun u u0 u1 => ?_
    simp! only []
    refine ⟨cMul_smallL (by omega) (by omega), ?_⟩
    refine deck_ok (by omega) (by omega) fun v v0 v1 => ?_
    simp! only []
    have hm : 0 ≤ min2I 10000 (g' * u + v) ∧ min2I 10000 (g' * u + v) ≤ 10000 := by
      have : 0 ≤ g' * u := Int.mul_nonneg (by omega) (by omega)
      unfold min2I
      split <;> omega
    refine deck_ok (by decide) (by decide) fun z y0 y1 => ?_
    simp! only []
    have f1 := fin g' (some (min2I 10000 (g' * u + v))) g1' g2' (fun i e => by cases e; exact hm)
    have f2 := fin g' none g1' g2' (fun i e => by cases e)
    simp! only [vD] at f1 f2
    by_cases ez : z = 0
    · rw [if_pos ez]
      refine ⟨g_div g1' g2' _, ?_⟩
      by_cases e3 : now / g' ≤ 100
      · rw [if_pos e3]
        exact f2
      · rw [if_neg e3]
        exact f1
    · rw [if_neg ez]
      exact f1
  · rw [if_neg e]
    have f1 := fin (1 + g) o (by omega) (by omega) ho
    simp! only [] at f1
    exact f1
theorem rule_loop {now : Int} (n0 : 0 ≤ now) (n1 : now ≤ 100000) {x6 : Sl} : ∀ (xs : List DL.D) (ks : List Kp) (x3 x4 x5 : Sl), ks.length + xs.length ≤ 6 → (∀ k ∈ ks, KpOk k) → (∀ (ks : List Kp) (x3 x4 x5 : Sl), (∀ k ∈ ks, KpOk k) → ks.length ≤ 6 → Δ.nx ⟨[.d (.mch Wd.w), .d (.int now), .l (ks.map Kp.D), x3, x4, x5, x6], μ⟩) →
    forL (gN 3) B_p_law_rule_1 Δ xs ⟨[.d (.mch Wd.w), .d (.int now), .l (ks.map Kp.D), x3, x4, x5, x6], μ⟩
  | [], ks, x3, x4, x5, hl, ho, h => h ks x3 x4 x5 ho (by simpa using hl)
  | z :: xs, ks, x3, x4, x5, hl, ho, h => by
    simp only [List.length_cons] at hl
    simp! only [forL_cons]
    refine rule_step n0 n1 (by omega) fun k x4 x5 ok => ?_
    have := rule_loop n0 n1 (x6 := x6) xs (ks ++ [k]) (.d z) x4 x5 (by simp; omega) (fun q hq => by
      rcases List.mem_append.mp hq with hq | hq
      · exact ho q hq
      · rw [List.mem_singleton.mp hq]; exact ok) h
    rw [List.map_append] at this
    exact this
theorem law_rule_ok {now : Int} (n0 : 0 ≤ now) (n1 : now ≤ 100000) (h : ∀ r : Rl, RlOk r → R (.d r.D) μ) : fn_p_law_rule [.mch Wd.w, .int now] μ R := by
  show Φ_p_law_rule _ ⟨[.d (.mch Wd.w), .d (.int now), .no, .no, .no, .no, .no], μ⟩
  simp! only [Φ_p_law_rule]
  refine ⟨Nat.zero_le _, ?_⟩
  refine deck_ok (by decide) (by decide) fun n m0 m1 => ?_
  simp! only []
  refine ⟨⟨by omega, by omega⟩, ?_⟩
  refine rule_loop n0 n1 _ [] _ _ _ (by simp [rng]; omega) (fun k hk => by cases hk) fun ks x3 x4 x5 hk hl => ?_
  simp! only []
  refine deck_ok (by decide) (by decide) fun a a0 a1 => ?_
  simp! only []
  refine deck_ok (by decide) (by decide) fun b b0 b1 => ?_
  simp! only []
  refine deck_ok (by decide) (by decide) fun c c0 c1 => ?_
  simp! only []
  refine ⟨by decide, ?_⟩
  refine pick_ok (by simp) (by simp) fun d hd => ?_
  obtain ⟨o, rfl, ho⟩ : ∃ o : Option Int, d = vD o ∧ ∀ i, o = some i → 0 ≤ i ∧ i ≤ 10000 := by
    simp only [List.mem_cons, List.not_mem_nil, or_false] at hd
    rcases hd with rfl | rfl | rfl | rfl | rfl
    · exact ⟨some 0, rfl, fun i e => by cases e; omega⟩
    · exact ⟨some a, rfl, fun i e => by cases e; omega⟩
    · exact ⟨some b, rfl, fun i e => by cases e; omega⟩
    · exact ⟨some c, rfl, fun i e => by cases e; omega⟩
    · exact ⟨none, rfl, fun i e => by cases e⟩
  simp! only []
  exact ⟨h2', h ⟨o, ks⟩ ⟨hk, hl, ho⟩⟩
/-! a time -/
theorem law_time_ok {r : Rl} (ro : RlOk r) {now : Int} (n0 : 0 ≤ now) (n1 : now ≤ 100000) (h : ∀ t : Int, 0 ≤ t → t ≤ now → R (.d (.int t)) μ) : fn_p_law_time [.mch Wd.w, r.D, .int now] μ R := by
  show Φ_p_law_time _ ⟨[.d (.mch Wd.w), .d r.D, .d (.int now), .no, .no, .no, .no], μ⟩
  have cl := cellsL_len n0 n1 r.ks 0 ro.ks
  have few := ro.few
  have mm : ∀ t : Int, 0 ≤ max2I 0 (min2I now t) ∧ max2I 0 (min2I now t) ≤ now := fun t => by
    unfold max2I min2I
    repeat' split
    all_goals omega
  have fin : ∀ t : Int, R (.d (.int (max2I 0 (min2I now t)))) μ := fun t => h _ (mm t).1 (mm t).2
  simp! only [Φ_p_law_time]
  refine deck_ok (by decide) (by decide) fun c c0 c1 => ?_
  simp! only []
  refine deck_ok (by omega) (by omega) fun t t0 t1 => ?_
  simp! only [I_p_law_time_0_eq]
  have tl : ∀ t : Int, fn_p_law_cells [r.D, .int now] μ fun r1 μ' => st1 5 r1 ⟨[.d (.mch Wd.w), .d r.D, .d (.int now), .d (.int c), .d (.int t), .no, .no], μ'⟩ (sSeq I_p_law_time_1 (sRet (eCB (oII max2I) (aCons (eC (.int 0)) (aCons (eCB (oII min2I) (aCons (eV 2) (aCons (eV 4) (aNil)))) (aNil))))) ⟨fun s => R (.d .non) s.μ, R, fun _ => False, fun _ => False⟩) := fun t => by
    refine (law_cells_an ro n0 n1).go ?_
    simp! only [I_p_law_time_1_eq]
    by_cases e : 1 < c
    · rw [if_pos e]
      cases hc : (cellsL now 0 r.ks) with
      | nil =>
        simp! only [List.map_nil, List.isEmpty_nil]
        exact fin _
      | cons q l =>
        have hne : ((q :: l).map cD).isEmpty = false := rfl
        simp! only [hne]
        refine pick_ok (by simp) (by rw [List.length_map, ← hc]; omega) fun d hd => ?_
        rw [← hc] at hd
        obtain ⟨⟨i, k⟩, hq, rfl⟩ := List.mem_map.mp hd
        have hi : i < r.ks.length := by have := cellsL_in r.ks 0 _ hq; simpa using this.2
        obtain ⟨kp, hk, hmem⟩ : ∃ k, r.ks[i]? = some k ∧ k ∈ r.ks := ⟨r.ks[i], List.getElem?_eq_getElem hi, List.getElem_mem hi⟩
        have ok := ro.ks kp hmem
        have eD : r.D = .tup [vD r.raw, .tup (r.ks.map Kp.D)] := rfl
        have ek : kp.D = .tup [.int kp.g, .tup (kp.ms.map DL.D.str), vD kp.age] := rfl
        have ea : atD (r.ks.map Kp.D) ((i : Nat) : Int) = some kp.D := by show (r.ks.map Kp.D)[i]? = _; rw [List.getElem?_map, hk]; rfl
        rw [show cD (i, k) = .tup [.int (i : Nat), .int (k : Nat)] from rfl, eD]
        simp! only [ea, ek]
        refine deck_ok (by decide) (by decide) fun u u0 u1 => ?_
        simp! only []
        refine ⟨cMul_smallL (by have := ok.g1; omega) (by have := ok.g2; omega), ?_⟩
        refine deck_ok (by decide) (by decide) fun v v0 v1 => ?_
        simp! only []
        exact fin _
    · rw [if_neg e]
      exact fin _
  by_cases e : c = 0
  · rw [if_pos e]
    refine (law_first_an ro n0).go ?_
    simp! only []
    refine deck_ok (by decide) (by decide) fun u u0 u1 => ?_
    simp! only []
    exact tl _
  · rw [if_neg e]
    exact tl _
end
end K20
namespace K20
open PySem PySem.Spec PyProof.Rows L2 DL
variable [Wd]
structure RB (now : Int) (rows : Rw Int) : Prop where
  nd : (rows.map (·.1)).Nodup
  ok : ∀ r ∈ rows, (0 ≤ r.1.1 ∧ r.1.1 ≤ now) ∧ 0 ≤ r.1.2 ∧ Sm 90 r.2
def ptOf (rows : Rw Int) (p : Pl) : Pt := (p.1, p.2, ((rows.find? fun r => decide (r.1 = p)).map (·.2)).getD 0)
theorem factsL_len {r : Rl} (o : RlOk r) {ps : List Pt} {now : Int} (h0 : 0 ≤ now) (h1 : now ≤ 100000) : (factsL ps now 0 r.ks).length < 9000000 := by
  have go : ∀ (ks : List Kp) (i : Nat), (∀ k ∈ ks, KpOk k) → (factsL ps now i ks).length ≤ ks.length * 1000010 := by
    intro ks
    induction ks with
    | nil => intro i _; simp [factsL]
    | cons k ks ih =>
      intro i h
      have := ih (i + 1) fun q hq => h q (List.mem_cons_of_mem _ hq)
      have := kfacts_len (h k (List.mem_cons_self ..)) (i := i) (ps := ps) h0 h1
      simp only [factsL, List.length_append, List.length_cons]
      omega
  have := go r.ks 0 o.ks
  have := o.few
  omega
section
variable {μ : Mu} {R : Sl → Mu → Prop} {w : DL.D} {Δ : DE}
abbrev PS (r : Rl) (now : Int) (rows : Rw Int) (t : Int) (x5 x6 x7 x8 : Sl) (μ : Mu) : S := ⟨[.d (.mch Wd.w), .d r.D, .d (.int now), rT DL.D.int rows, .d (.int t), x5, x6, x7, x8], μ⟩
theorem past_step {r : Rl} (ro : RlOk r) {now : Int} (n0 : 0 ≤ now) (n1 : now ≤ 100000) {rows : Rw Int} (hl : rows.length < 1000) (rb : RB now rows) {t : Int} (t0 : 0 ≤ t) (t1 : t ≤ now) {x5 x6 x7 x8 : Sl}
    (h : ∀ rows' t x6 x7, RB now rows' → rows'.length ≤ rows.length + 1 → 0 ≤ t → t ≤ now → Δ.nx (PS r now rows' t x5 x6 x7 x8 μ)) : B_p_law_past_3 Δ (PS r now rows t x5 x6 x7 x8 μ) := by
  have big : 2000 < sizeLine := by decide
  have p25 : (10 : Int) ^ (25 : Int).toNat = 10000000000000000000000000 := by decide +kernel
  have p30 : (10 : Int) ^ (30 : Int).toNat = 1000000000000000000000000000000 := by decide +kernel
  have put : ∀ (t n v : Int) (x6 x7 : Sl), 0 ≤ t → t ≤ now → 0 ≤ n → Sm 90 v → rows.length < sizeLine ∧ Δ.nx (PS r now (putR rows (t, n) v) t x5 x6 x7 x8 μ) := fun t n v x6 x7 t0 t1 hn hv => ⟨by omega, h _ _ _ _ ⟨putR_nodup rb.nd, fun q hq => by
      rcases putR_mem hq with rfl | hq
      · exact ⟨⟨t0, t1⟩, hn, hv⟩
      · exact rb.ok q hq⟩ putR_len t0 t1⟩
  have tl : ∀ (t : Int), 0 ≤ t → t ≤ now → ∀ (x6 x7 : Sl), (sSeq (sSet 6 (eCall (fdn 2 (fn_p_law_draw)) [] (aCons (eV 0) (aCons (eC (.int 4)) (aNil)))))
  (sSeq (I_p_law_past_1)
  (sSeq (sSet 7 (eOp oSub (eCall (fdn 2 (fn_p_law_draw)) [] (aCons (eV 0) (aCons (eC (.int 9)) (aNil)))) (eC (.int 4))))
  (sSeq (I_p_law_past_2)
  (sTPut 3 (eTup (aCons (eV 4) (aCons (eV 6) (aNil)))) (eV 7)))))) Δ (PS r now rows t x5 x6 x7 x8 μ) := fun t t0 t1 x6 x7 => by
    simp! only [PS]
    refine deck_ok (by decide) (by decide) fun n m0 m1 => ?_
    simp! only [I_p_law_past_1_eq]
    refine deck_ok (by decide) (by decide) fun z y0 y1 => ?_
    simp! only []
    have tl2 : ∀ n : Int, 0 ≤ n → ∀ x7 : Sl, (sSeq (sSet 7 (eOp oSub (eCall (fdn 2 (fn_p_law_draw)) [] (aCons (eV 0) (aCons (eC (.int 9)) (aNil)))) (eC (.int 4))))
  (sSeq (I_p_law_past_2)
  (sTPut 3 (eTup (aCons (eV 4) (aCons (eV 6) (aNil)))) (eV 7)))) Δ (PS r now rows t x5 (.d (.int n)) x7 x8 μ) := fun n hn x7 => by
      simp! only [PS]
      refine deck_ok (by decide) (by decide) fun v v0 v1 => ?_
      simp! only [I_p_law_past_2_eq]
      refine deck_ok (by decide) (by decide) fun u u0 u1 => ?_
      simp! only []
      by_cases e : u = 0
      · rw [if_pos e]
        refine deck_ok (by decide) (by decide) fun s s0 s1 => ?_
        simp! only []
        refine ⟨cMul_small (by omega) (by omega), ⟨by decide, by decide, by decide⟩, cMul_smallL (by omega) (by omega), ?_⟩
        refine deck_ok (by decide) (by decide) fun c c0 c1 => ?_
        simp! only [zDicR, zvR, zlkR, zlkSR, zfzR, zsR, zrtR, ztp0R, ztpI, xIxR, xSrtR]
        refine ⟨h2', ?_⟩
        refine put t n _ _ _ t0 t1 hn ?_
        rw [p25]
        unfold Sm
        omega
      · rw [if_neg e]
        simp! only [zDicR, zvR, zlkR, zlkSR, zfzR, zsR, zrtR, ztp0R, ztpI, xIxR, xSrtR]
        refine ⟨h2', ?_⟩
        refine put t n _ _ _ t0 t1 hn ?_
        exact (show Sm 4 (v - 4) by unfold Sm; omega).mono (by decide)
    by_cases e : z = 0
    · rw [if_pos e]
      refine ⟨⟨by decide, by decide, by decide⟩, ?_⟩
      refine deck_ok (by decide) (by decide) fun c c0 c1 => ?_
      have := tl2 ((10 : Int) ^ (30 : Int).toNat + c) (by rw [p30]; omega) x7
      simp! only [PS] at this ⊢
      exact this
    · rw [if_neg e]
      have := tl2 n m0 x7
      simp! only [PS] at this ⊢
      exact this
  simp! only [PS, B_p_law_past_3_eq, I_p_law_past_0_eq, zSeq, zIf]
  refine deck_ok (by decide) (by decide) fun a a0 a1 => ?_
  simp! only [zlk_d, xGt_ii, ztB, zbk, decide_eq_true_eq]
  by_cases e : 0 < a
  · rw [if_pos e]
    refine law_time_ok ro n0 n1 fun t t0 t1 => ?_
    have := tl t t0 t1 x6 x7
    simp! only [PS] at this ⊢
    exact this
  · rw [if_neg e]
    have := tl t t0 t1 x6 x7
    simp! only [PS] at this ⊢
    exact this
theorem past_loop {r : Rl} (ro : RlOk r) {now : Int} (n0 : 0 ≤ now) (n1 : now ≤ 100000) {x8 : Sl} : ∀ (xs : List DL.D) (rows : Rw Int) (t : Int) (x5 x6 x7 : Sl), rows.length + xs.length < 1000 → RB now rows → 0 ≤ t → t ≤ now →
    (∀ rows' t x5 x6 x7, RB now rows' → rows'.length ≤ rows.length + xs.length → Δ.nx (PS r now rows' t x5 x6 x7 x8 μ)) → forL (gN 5) B_p_law_past_3 Δ xs (PS r now rows t x5 x6 x7 x8 μ)
  | [], rows, t, x5, x6, x7, hl, rb, t0, t1, h => h rows t x5 x6 x7 rb (Nat.le_refl _)
  | x :: xs, rows, t, x5, x6, x7, hl, rb, t0, t1, h => by
    simp only [List.length_cons] at hl h
    simp! only [PS, forL_cons]
    refine past_step ro n0 n1 (by omega) rb t0 t1 fun rows' t' x6 x7 rb' l' t0' t1' => ?_
    exact past_loop ro n0 n1 xs rows' t' _ _ _ (by omega) rb' t0' t1' fun r2 t2 a b c rb2 l2 => h r2 t2 a b c rb2 (by omega)
theorem past_pts {r : Rl} {now t : Int} {RE : Sl → S → Prop} {rows : Rw Int} {x5 x6 x7 y : Sl} {s0 : S} (hs0 : get s0.ρ 8 = y) : ∀ (l : List Pl) (acc : List DL.D) (x : Sl), (∀ p ∈ l, p ∈ rows.map (·.1)) → acc.length + l.length < 10000 →
    RE (.l (acc ++ l.map fun p => pD (ptOf rows p))) (PS r now rows t x5 x6 x7 (keepD y) μ) →
    lcL [8] s0 (gN 8) (fun s R => R true s) E_p_law_past_4 RE (l.map ip) acc (PS r now rows t x5 x6 x7 x μ)
  | [], acc, x, _, _, h => by
    simp! only [PS, List.map_nil, lcL_nil, zbck, hs0] at h ⊢
    simpa using h
  | p :: l, acc, x, hm, hl, h => by
    have big : 10000 < sizeLine := by decide
    simp only [List.length_cons] at hl
    obtain ⟨v, f1, f2⟩ := find_rw (hm p (List.mem_cons_self ..))
    have e : pD (ptOf rows p) = .tup [.int p.1, .int p.2, .int v] := by
      unfold ptOf
      rw [f1]
      rfl
    have ih := past_pts (r := r) (now := now) (t := t) (RE := RE) (rows := rows) (x5 := x5) (x6 := x6) (x7 := x7) hs0 l (acc ++ [pD (ptOf rows p)]) .no (fun q hq => hm q (List.mem_cons_of_mem _ hq)) (by simp; omega) (by rw [List.append_assoc]; exact h)
    simp! only [PS, List.map_cons, lcL_cons, E_p_law_past_4_eq, ip, zDicR, zvR, zlkR, zlkSR, zfzR, zsR, zrtR, ztp0R, ztpI, xIxR, xSrtR, f1, Option.map_some]
    rw [e] at ih
    exact ⟨by decide, by decide, by omega, ih⟩
theorem RB.pts {now : Int} {rows : Rw Int} (rb : RB now rows) (hl : rows.length ≤ 900) : Ok ((sortI2 (rows.map (·.1))).map (ptOf rows)) ∧ ∀ p ∈ (sortI2 (rows.map (·.1))).map (ptOf rows), p.1 ≤ now := by
  refine ⟨⟨?_, fun p hp => ?_, fun p hp => ?_, ?_⟩, fun p hp => ?_⟩
  · rw [List.pairwise_map]
    exact (sortI2_asc rb.nd).imp fun {p q} h => h
  · obtain ⟨q, hq, rfl⟩ := List.mem_map.mp hp
    obtain ⟨v, f1, f2⟩ := find_rw (sortI2_mem.mp hq)
    have := rb.ok _ f2
    exact ⟨this.1.1, this.2.1⟩
  · obtain ⟨q, hq, rfl⟩ := List.mem_map.mp hp
    obtain ⟨v, f1, f2⟩ := find_rw (sortI2_mem.mp hq)
    have := rb.ok _ f2
    unfold ptOf
    rw [f1]
    exact this.2.2.mono (by decide)
  · rw [List.length_map, sortI2_len, List.length_map]; omega
  · obtain ⟨q, hq, rfl⟩ := List.mem_map.mp hp
    obtain ⟨v, f1, f2⟩ := find_rw (sortI2_mem.mp hq)
    exact (rb.ok _ f2).1.2
theorem law_past_ok {r : Rl} (ro : RlOk r) {now : Int} (n0 : 0 ≤ now) (n1 : now ≤ 100000) (h : ∀ ps : List Pt, Ok ps → (∀ p ∈ ps, p.1 ≤ now) → R (.d (.tup (ps.map pD))) μ) : fn_p_law_past [.mch Wd.w, r.D, .int now] μ R := by
  show Φ_p_law_past _ ⟨[.d (.mch Wd.w), .d r.D, .d (.int now), .no, .no, .no, .no, .no, .no], μ⟩
  simp! only [Φ_p_law_past, zDicR, zvR, zlkR, zlkSR, zfzR, zsR, zrtR, ztp0R, ztpI, xIxR, xSrtR]
  refine deck_ok (by decide) (by decide) fun a a0 a1 => ?_
  simp! only []
  refine ⟨⟨by omega, by omega⟩, ?_⟩
  refine past_loop ro n0 n1 _ [] now _ _ _ (by simp [rng]; omega) ⟨by simp, by simp⟩ n0 (Int.le_refl _) fun rows t x5 x6 x7 rb l => ?_
  have l : rows.length ≤ 30 := by simp [rng] at l; omega
  simp! only [PS, zDicR, zvR, zlkR, zlkSR, zfzR, zsR, zrtR, ztp0R, ztpI, xIxR, xSrtR, xListKR]
  refine ⟨csort_ip _, ?_⟩
  rw [sort_ip]
  refine past_pts (y := .no) ?h1 (sortI2 (rows.map (·.1))) [] _ (fun p hp => sortI2_mem.mp hp) (by rw [sortI2_len]; simp; omega) ?_
  case h1 => rfl
  simp! only [PS]
  obtain ⟨o, u⟩ := rb.pts (by omega)
  have := h _ o u
  rw [List.map_map] at this
  exact this
/-! the law -/
theorem TD.atom {n : Nat} {d : DL.D} (h : TD 0 d) : TD n d := by
  cases d with
  | non => cases n <;> trivial
  | bl b => cases n <;> trivial
  | int i => cases n <;> trivial
  | str x => cases n <;> trivial
  | _ => exact (show False from h).elim
theorem TD.up : ∀ {n : Nat} {d : DL.D}, TD n d → TD (n + 1) d
  | 0, d, h => h.atom
  | n + 1, .tup ds, ⟨h1, h2⟩ => ⟨h1, fun d hd => (h2 d hd).up⟩
  | n + 1, .non, _ => trivial
  | n + 1, .bl _, _ => trivial
  | n + 1, .int _, _ => trivial
  | n + 1, .str _, _ => trivial
theorem td_pD (p : Pt) : TD 1 (pD p) := ⟨by simp, fun d hd => by
  simp only [List.mem_cons, List.not_mem_nil, or_false] at hd
  rcases hd with rfl | rfl | rfl <;> trivial⟩
theorem td_mv {m : Str} {ps : List Pt} : TD 1 (mv m ps) := by
  have v : ∀ o, TD 1 (vD o) := fun o => by cases o <;> trivial
  have e : ∀ o, TD 1 (eD o) := fun o => by
    cases o with
    | none => trivial
    | some p => exact ⟨by simp, fun d hd => by
        simp only [List.mem_cons, List.not_mem_nil, or_false] at hd
        rcases hd with rfl | rfl <;> trivial⟩
  unfold mv
  repeat' split
  all_goals first | trivial | exact v _ | exact e _
theorem facts_val {ps : List Pt} {now : Int} : ∀ {ks : List Kp} {i : Nat}, ∀ f ∈ factsL ps now i ks, ∃ q : List Pt, f.2.2.2 = mv f.2.2.1 q
  | [], _, f, h => by cases h
  | k :: ks, i, f, h => by
    rcases List.mem_append.mp h with h | h
    · obtain ⟨c, _, h⟩ := List.mem_flatMap.mp h
      obtain ⟨m, _, rfl⟩ := List.mem_map.mp h
      exact ⟨_, rfl⟩
    · exact facts_val f h
theorem td_left {r : Rl} (ro : RlOk r) {now : Int} (n0 : 0 ≤ now) (n1 : now ≤ 100000) {ps : List Pt} (op : Ok ps) : TD 5 (leftD r now ps) := by
  refine ⟨by simp, fun d hd => ?_⟩
  simp only [List.mem_cons, List.not_mem_nil, or_false] at hd
  rcases hd with rfl | rfl
  · refine ⟨?_, fun d hd => ?_⟩
    · rw [List.length_map]
      have := List.length_filter_le (hadP r now) ps
      have := op.few
      omega
    · obtain ⟨p, _, rfl⟩ := List.mem_map.mp hd
      exact (td_pD p).up.up
  · refine ⟨?_, fun d hd => ?_⟩
    · rw [List.length_map]
      have := factsL_len ro (ps := ps) n0 n1
      omega
    · obtain ⟨f, hf, rfl⟩ := List.mem_map.mp hd
      obtain ⟨q, e⟩ := facts_val f hf
      refine ⟨by simp, fun d hd => ?_⟩
      simp only [List.mem_cons, List.not_mem_nil, or_false] at hd
      rcases hd with rfl | rfl | rfl | rfl
      · trivial
      · trivial
      · trivial
      · rw [e]; exact td_mv.up
theorem td_cells {r : Rl} (ro : RlOk r) {now : Int} (n0 : 0 ≤ now) (n1 : now ≤ 100000) : TD 5 (.tup ((cellsL now 0 r.ks).map cD)) := by
  refine ⟨?_, fun d hd => ?_⟩
  · have := cellsL_len n0 n1 r.ks 0 ro.ks
    have := ro.few
    rw [List.length_map]
    omega
  · obtain ⟨q, _, rfl⟩ := List.mem_map.mp hd
    exact ⟨by simp, fun d hd => by
      simp only [List.mem_cons, List.not_mem_nil, or_false] at hd
      rcases hd with rfl | rfl <;> trivial⟩
abbrev LS (r : Rl) (now : Int) (x0 x4 x6 x7 x8 : Sl) (μ : Mu) : S := ⟨[x0, .d (.mch Wd.w), .d (.int now), .d r.D, x4, .d (.int (r.first now)), x6, x7, x8], μ⟩
theorem pts_lc {r : Rl} {now : Int} {x0 x4 x6 x7 : Sl} {s0 : S} {y : Sl} (hs0 : get s0.ρ 8 = y) {RE : Sl → S → Prop} : ∀ (ps : List Pt) (acc : List Pt) (x : Sl), (∀ p ∈ ps, p.1 ≤ now) → acc.length + ps.length < 1000000 →
    RE (.l ((acc ++ ps.filter (hadP r now)).map pD)) (LS r now x0 x4 x6 x7 (keepD y) μ) →
    lcL [8] s0 (gN 8) T_law_2 E_law_1 RE (ps.map pD) (acc.map pD) (LS r now x0 x4 x6 x7 x μ)
  | [], acc, x, _, _, h => by
    simp! only [LS, List.map_nil, lcL_nil, zbck, hs0] at h ⊢
    simpa using h
  | p :: ps, acc, x, hn, hl, h => by
    have big : 1000000 < sizeLine := by decide
    have np := hn p (List.mem_cons_self ..)
    simp only [List.length_cons] at hl
    simp! only [LS, List.map_cons, lcL_cons, T_law_2_eq, E_law_1_eq, pD]
    by_cases e : r.first now ≤ p.1
    · have ih := pts_lc (r := r) (now := now) (x0 := x0) (x4 := x4) (x6 := x6) (x7 := x7) hs0 (RE := RE) ps (acc ++ [p]) .no (fun q hq => hn q (List.mem_cons_of_mem _ hq)) (by simp; omega) (by rw [List.filter_cons_of_pos (by simp [hadP, e, np])] at h; simpa [List.append_assoc] using h)
      simp! only [e, List.length_map]
      rw [List.map_append] at ih
      exact ⟨by omega, ih⟩
    · have ih := pts_lc (r := r) (now := now) (x0 := x0) (x4 := x4) (x6 := x6) (x7 := x7) hs0 (RE := RE) ps acc .no (fun q hq => hn q (List.mem_cons_of_mem _ hq)) (by omega) (by rw [List.filter_cons_of_neg (by simp [hadP, e])] at h; exact h)
      simp! only [e]
      exact ih
theorem one_step {r : Rl} (ro : RlOk r) {now : Int} (n0 : 0 ≤ now) (n1 : now ≤ 100000) {ps : List Pt} (op : Ok ps) (up : ∀ p ∈ ps, p.1 ≤ now) {x0 x4 x7 x8 : Sl} (h : ∀ x7 x8 μ, Δ.nx (LS r now x0 x4 (.d (.tup (ps.map pD))) x7 x8 μ)) :
    B_law_3 Δ (LS r now x0 x4 (.d (.tup (ps.map pD))) x7 x8 μ) := by
  simp! only [LS, B_law_3_eq]
  refine pts_lc (y := x8) (r := r) ?hs ps [] _ up (by have := op.few; simp; omega) ?_
  case hs => rfl
  simp! only [LS, List.nil_append]
  refine left_ok ro n0 n1 op ((upB_iff op.asc).mpr up) fun μ' => ?_
  simp! only []
  refine (law_facts_an ro n0 n1 op).go ?_
  simp! only []
  refine ⟨h2', ?_⟩
  refine (same_an 5 _ (td_left ro n0 n1 op)).go ?_
  simp! only []
  exact h _ _ _
theorem cut_last {α : Type} (xs : List α) : DL.cutD xs none (some (-1)) = xs.dropLast := by
  unfold DL.cutD
  rw [HT.sIx_none, List.drop_zero, Nat.sub_zero, List.dropLast_eq_take]
  congr 1
  show (if (-1 : Int) < 0 then ((-1 : Int) + (xs.length : Int)).toNat else min (-1 : Int).toNat xs.length) = _
  rw [if_pos (by decide)]
  omega
theorem law_true (ns : List Int) (hn : ns.length ≤ 63) : fn_law [.lst (ns.map D.int)] (fun _ => none) fun r _ => r = .d (.bl true) := by
  show Φ_law _ ⟨[.d (.lst (ns.map D.int)), .no, .no, .no, .no, .no, .no, .no, .no], fun _ => none⟩
  simp! only [Φ_law]
  refine ⟨ns, 20, rfl, hn, ⟨by decide, by decide⟩, ?_⟩
  simp! only []
  refine deck_ok (by decide) (by decide) fun now n0 n1 => ?_
  simp! only [I_law_0_eq]
  refine deck_ok (by decide) (by decide) fun z y0 y1 => ?_
  simp! only []
  have tl : ∀ now : Int, 0 ≤ now → now ≤ 100000 → (sSeq (sSet 3 (eCall (fdn 2 (fn_p_law_rule)) [] (aCons (eV 1) (aCons (eV 2) (aNil)))))
  (sSeq (sSet 4 (eCall (fdn 3 (fn_p_law_past)) [] (aCons (eV 1) (aCons (eV 3) (aCons (eV 2) (aNil))))))
  (sSeq (sIf (tNot (tT (eCall (fdn 2 (fn_p_law_same 6)) [] (aCons (eCall (fdn 2 (fn_cells)) [] (aCons (eV 3) (aCons (eV 2) (aNil)))) (aCons (eCall (fdn 2 (fn_p_law_cells)) [] (aCons (eV 3) (aCons (eV 2) (aNil)))) (aNil)))))) (sRet (eC (.bl false))) (sNil))
  (sSeq (sSet 5 (eCall (fdn 2 (fn_p_law_first)) [] (aCons (eV 3) (aCons (eV 2) (aNil)))))
  (sSeq (sFor (iE (eTup (aCons (eV 4) (aCons (eSl (eV 4) (pNone) (pSome (eUn oNeg (eC (.int 1))))) (aCons (eTup (aNil)) (aNil)))))) (gN 6) (B_law_3))
  (sRet (eCall (fdn 2 (fn_p_law_same 6)) [] (aCons (eCall (fdn 2 (fn_cells)) [] (aCons (eV 3) (aCons (eV 2) (aNil)))) (aCons (eCall (fdn 2 (fn_p_law_cells)) [] (aCons (eV 3) (aCons (eV 2) (aNil)))) (aNil)))))))))) ⟨fun s => Sl.d DL.D.non = .d (.bl true), fun r (_ : Mu) => r = Sl.d (.bl true), fun _ => False, fun _ => False⟩ ⟨[.d (.lst (ns.map D.int)), .d (.mch Wd.w), .d (.int now), .no, .no, .no, .no, .no, .no], fun _ => none⟩ := fun now n0 n1 => by
    simp! only []
    refine law_rule_ok n0 n1 fun r ro => ?_
    simp! only []
    refine law_past_ok ro n0 n1 fun ps op up => ?_
    simp! only []
    have cs : ∀ {μ : Mu} {R : Sl → Mu → Prop}, R (.d (.bl true)) μ → fn_p_law_same 6 [.tup ((cellsL now 0 r.ks).map cD), .tup ((cellsL now 0 r.ks).map cD)] μ R := fun h => same_an 5 _ (td_cells ro n0 n1) _ _ h
    refine cells_ok ro n0 n1 ?_
    simp! only []
    refine (law_cells_an ro n0 n1).go ?_
    simp! only []
    refine cs ?_
    simp! only []
    refine (law_first_an ro n0).go ?_
    have ec : DL.cutD (ps.map pD) none (some (-1)) = ps.dropLast.map pD := by rw [cut_last, List.map_dropLast]
    simp! only [ec]
    refine ⟨by decide, by decide, ?_⟩
    have o2 : Ok ps.dropLast := ⟨op.asc.sublist (List.dropLast_sublist _), fun p hp => op.nn p ((List.dropLast_sublist _).subset hp), fun p hp => op.sm p ((List.dropLast_sublist _).subset hp), by have := op.few; rw [List.length_dropLast]; omega⟩
    have o3 : Ok [] := ⟨.nil, (fun p h => by cases h), (fun p h => by cases h), by decide⟩
    simp! only [forL_cons]
    refine one_step (r := r) ro n0 n1 op up fun x7 x8 μ => ?_
    simp! only [LS, forL_cons]
    refine one_step (r := r) ro n0 n1 o2 (fun p hp => up p ((List.dropLast_sublist _).subset hp)) fun x7 x8 μ => ?_
    simp! only [LS, forL_cons]
    refine one_step (r := r) (ps := []) ro n0 n1 o3 (fun p hp => by cases hp) fun x7 x8 μ => ?_
    simp! only [LS, forL_nil]
    refine cells_ok ro n0 n1 ?_
    simp! only []
    refine (law_cells_an ro n0 n1).go ?_
    simp! only []
    refine cs ?_
    simp! only []
  by_cases e : z = 0
  · rw [if_pos e]
    refine deck_ok (by decide) (by decide) fun a a0 a1 => ?_
    simp! only []
    refine deck_ok (by decide) (by decide) fun b b0 b1 => ?_
    simp! only []
    refine deck_ok (by decide) (by decide) fun c c0 c1 => ?_
    simp! only []
    refine ⟨h4', ?_⟩
    refine pick_ok (by simp) (by simp) fun d hd => ?_
    obtain ⟨m, rfl, m0, m1⟩ : ∃ m : Int, d = .int m ∧ 0 ≤ m ∧ m ≤ 100000 := by
      simp only [List.mem_cons, List.not_mem_nil, or_false] at hd
      rcases hd with rfl | rfl | rfl | rfl <;> exact ⟨_, rfl, by omega, by omega⟩
    simp! only []
    have := tl m m0 m1
    simp! only [] at this
    exact this
  · rw [if_neg e]
    have := tl now n0 (by omega)
    simp! only [] at this
    exact this
end
end K20
namespace K20
open PySem PySem.Spec PyProof.Rows L2 DL
def topS (i : Nat) : Stmt := PySem.Challenge.pw_stillanswered_k20_cells_and_what_is_left.main.body.getD i (.Pass ⟨0, 0, 0, 0⟩)
abbrev s_is_measure : Stmt := topS 14
theorem sc_is_measure : FnScope ["value"] ["value"] (defScope s_is_measure) := ⟨rfl, rfl, rfl, by decide +kernel, rfl, by decide +kernel, by decide +kernel⟩
abbrev s_is_int : Stmt := topS 16
theorem sc_is_int : FnScope ["value"] ["value"] (defScope s_is_int) := ⟨rfl, rfl, rfl, by decide +kernel, rfl, by decide +kernel, by decide +kernel⟩
abbrev s_is_count : Stmt := topS 17
theorem sc_is_count : FnScope ["value"] ["value"] (defScope s_is_count) := ⟨rfl, rfl, rfl, by decide +kernel, rfl, by decide +kernel, by decide +kernel⟩
abbrev s_is_int_within : Stmt := topS 18
theorem sc_is_int_within : FnScope ["value", "low", "high"] ["value", "low", "high"] (defScope s_is_int_within) := ⟨rfl, rfl, rfl, by decide +kernel, rfl, by decide +kernel, by decide +kernel⟩
abbrev s_is_tuple_of : Stmt := topS 19
theorem sc_is_tuple_of : FnScope ["value", "length"] ["value", "length"] (defScope s_is_tuple_of) := ⟨rfl, rfl, rfl, by decide +kernel, rfl, by decide +kernel, by decide +kernel⟩
abbrev s_is_point : Stmt := topS 20
theorem sc_is_point : FnScope ["value"] ["value"] (defScope s_is_point) := ⟨rfl, rfl, rfl, by decide +kernel, rfl, by decide +kernel, by decide +kernel⟩
abbrev s_place_of : Stmt := topS 21
theorem sc_place_of : FnScope ["point"] ["point"] (defScope s_place_of) := ⟨rfl, rfl, rfl, by decide +kernel, rfl, by decide +kernel, by decide +kernel⟩
abbrev s_is_past : Stmt := topS 22
theorem sc_is_past : FnScope ["value", "ahead", "point"] ["value"] (defScope s_is_past) := ⟨rfl, rfl, rfl, by decide +kernel, rfl, by decide +kernel, by decide +kernel⟩
abbrev s_is_past_up_to : Stmt := topS 23
theorem sc_is_past_up_to : FnScope ["value", "now"] ["value", "now"] (defScope s_is_past_up_to) := ⟨rfl, rfl, rfl, by decide +kernel, rfl, by decide +kernel, by decide +kernel⟩
abbrev s_check_past_up_to : Stmt := topS 25
theorem sc_check_past_up_to : FnScope ["past", "now"] ["past", "now"] (defScope s_check_past_up_to) := ⟨rfl, rfl, rfl, by decide +kernel, rfl, by decide +kernel, by decide +kernel⟩
abbrev s_count_of : Stmt := topS 26
theorem sc_count_of : FnScope ["points"] ["points"] (defScope s_count_of) := ⟨rfl, rfl, rfl, by decide +kernel, rfl, by decide +kernel, by decide +kernel⟩
abbrev s_sum_of : Stmt := topS 27
theorem sc_sum_of : FnScope ["points", "total", "point"] ["points"] (defScope s_sum_of) := ⟨rfl, rfl, rfl, by decide +kernel, rfl, by decide +kernel, by decide +kernel⟩
abbrev s_squares_of : Stmt := topS 28
theorem sc_squares_of : FnScope ["points", "total", "point"] ["points"] (defScope s_squares_of) := ⟨rfl, rfl, rfl, by decide +kernel, rfl, by decide +kernel, by decide +kernel⟩
abbrev s_least_of : Stmt := topS 29
theorem sc_least_of : FnScope ["points", "least", "point"] ["points"] (defScope s_least_of) := ⟨rfl, rfl, rfl, by decide +kernel, rfl, by decide +kernel, by decide +kernel⟩
abbrev s_greatest_of : Stmt := topS 30
theorem sc_greatest_of : FnScope ["points", "greatest", "point"] ["points"] (defScope s_greatest_of) := ⟨rfl, rfl, rfl, by decide +kernel, rfl, by decide +kernel, by decide +kernel⟩
abbrev s_first_of : Stmt := topS 31
theorem sc_first_of : FnScope ["points", "first", "point"] ["points"] (defScope s_first_of) := ⟨rfl, rfl, rfl, by decide +kernel, rfl, by decide +kernel, by decide +kernel⟩
abbrev s_last_of : Stmt := topS 32
theorem sc_last_of : FnScope ["points", "last", "point"] ["points"] (defScope s_last_of) := ⟨rfl, rfl, rfl, by decide +kernel, rfl, by decide +kernel, by decide +kernel⟩
abbrev s_measured : Stmt := topS 33
theorem sc_measured : FnScope ["points", "measure"] ["points", "measure"] (defScope s_measured) := ⟨rfl, rfl, rfl, by decide +kernel, rfl, by decide +kernel, by decide +kernel⟩
abbrev s_is_moment : Stmt := topS 39
theorem sc_is_moment : FnScope ["value"] ["value"] (defScope s_is_moment) := ⟨rfl, rfl, rfl, by decide +kernel, rfl, by decide +kernel, by decide +kernel⟩
abbrev s_is_grain : Stmt := topS 40
theorem sc_is_grain : FnScope ["value"] ["value"] (defScope s_is_grain) := ⟨rfl, rfl, rfl, by decide +kernel, rfl, by decide +kernel, by decide +kernel⟩
abbrev s_is_age : Stmt := topS 41
theorem sc_is_age : FnScope ["value"] ["value"] (defScope s_is_age) := ⟨rfl, rfl, rfl, by decide +kernel, rfl, by decide +kernel, by decide +kernel⟩
abbrev s_is_row_of_measures : Stmt := topS 42
theorem sc_is_row_of_measures : FnScope ["value", "ahead", "measure"] ["value"] (defScope s_is_row_of_measures) := ⟨rfl, rfl, rfl, by decide +kernel, rfl, by decide +kernel, by decide +kernel⟩
abbrev s_is_keep : Stmt := topS 43
theorem sc_is_keep : FnScope ["value"] ["value"] (defScope s_is_keep) := ⟨rfl, rfl, rfl, by decide +kernel, rfl, by decide +kernel, by decide +kernel⟩
abbrev s_is_row_of_keeps : Stmt := topS 44
theorem sc_is_row_of_keeps : FnScope ["value", "keep"] ["value"] (defScope s_is_row_of_keeps) := ⟨rfl, rfl, rfl, by decide +kernel, rfl, by decide +kernel, by decide +kernel⟩
abbrev s_is_rule : Stmt := topS 45
theorem sc_is_rule : FnScope ["value"] ["value"] (defScope s_is_rule) := ⟨rfl, rfl, rfl, by decide +kernel, rfl, by decide +kernel, by decide +kernel⟩
abbrev s_check_rule : Stmt := topS 47
theorem sc_check_rule : FnScope ["rule"] ["rule"] (defScope s_check_rule) := ⟨rfl, rfl, rfl, by decide +kernel, rfl, by decide +kernel, by decide +kernel⟩
abbrev s_check_moment : Stmt := topS 48
theorem sc_check_moment : FnScope ["now"] ["now"] (defScope s_check_moment) := ⟨rfl, rfl, rfl, by decide +kernel, rfl, by decide +kernel, by decide +kernel⟩
abbrev s_first_time : Stmt := topS 49
theorem sc_first_time : FnScope ["rule", "now", "raw"] ["rule", "now"] (defScope s_first_time) := ⟨rfl, rfl, rfl, by decide +kernel, rfl, by decide +kernel, by decide +kernel⟩
abbrev s_first_cell : Stmt := topS 50
theorem sc_first_cell : FnScope ["keep", "now", "grain", "_", "age"] ["keep", "now"] (defScope s_first_cell) := ⟨rfl, rfl, rfl, by decide +kernel, rfl, by decide +kernel, by decide +kernel⟩
abbrev s_last_cell : Stmt := topS 51
theorem sc_last_cell : FnScope ["keep", "now"] ["keep", "now"] (defScope s_last_cell) := ⟨rfl, rfl, rfl, by decide +kernel, rfl, by decide +kernel, by decide +kernel⟩
abbrev s_cell_numbers : Stmt := topS 52
theorem sc_cell_numbers : FnScope ["keep", "now"] ["keep", "now"] (defScope s_cell_numbers) := ⟨rfl, rfl, rfl, by decide +kernel, rfl, by decide +kernel, by decide +kernel⟩
abbrev s_cells : Stmt := topS 53
theorem sc_cells : FnScope ["rule", "now", "found", "place", "keep", "k"] ["rule", "now"] (defScope s_cells) := ⟨rfl, rfl, rfl, by decide +kernel, rfl, by decide +kernel, by decide +kernel⟩
abbrev s_points_left : Stmt := topS 54
theorem sc_points_left : FnScope ["rule", "now", "past", "start", "point"] ["rule", "now", "past"] (defScope s_points_left) := ⟨rfl, rfl, rfl, by decide +kernel, rfl, by decide +kernel, by decide +kernel⟩
abbrev s_points_by_cell : Stmt := topS 55
theorem sc_points_by_cell : FnScope ["keep", "past", "rows", "point", "k"] ["keep", "past"] (defScope s_points_by_cell) := ⟨rfl, rfl, rfl, by decide +kernel, rfl, by decide +kernel, by decide +kernel⟩
abbrev s_facts_of_cell : Stmt := topS 56
theorem sc_facts_of_cell : FnScope ["place", "k", "keep", "points", "measure"] ["place", "k", "keep", "points"] (defScope s_facts_of_cell) := ⟨rfl, rfl, rfl, by decide +kernel, rfl, by decide +kernel, by decide +kernel⟩
abbrev s_facts_of_keep : Stmt := topS 57
theorem sc_facts_of_keep : FnScope ["place", "keep", "now", "past", "held", "facts", "k"] ["place", "keep", "now", "past"] (defScope s_facts_of_keep) := ⟨rfl, rfl, rfl, by decide +kernel, rfl, by decide +kernel, by decide +kernel⟩
abbrev s_left : Stmt := topS 58
theorem sc_left : FnScope ["rule", "now", "past", "facts", "place", "keep"] ["rule", "now", "past"] (defScope s_left) := ⟨rfl, rfl, rfl, by decide +kernel, rfl, by decide +kernel, by decide +kernel⟩
abbrev s_p_law_deck : Stmt := topS 60
theorem sc_p_law_deck : FnScope ["script", "salt", "seed", "cell"] ["script", "salt"] (defScope s_p_law_deck) := ⟨rfl, rfl, rfl, by decide +kernel, rfl, by decide +kernel, by decide +kernel⟩
abbrev s_p_law_draw : Stmt := topS 61
theorem sc_p_law_draw : FnScope ["deck", "many", "cell", "digit", "mixed"] ["deck", "many"] (defScope s_p_law_draw) := ⟨rfl, rfl, rfl, by decide +kernel, rfl, by decide +kernel, by decide +kernel⟩
abbrev s_p_law_pick : Stmt := topS 62
theorem sc_p_law_pick : FnScope ["deck", "row"] ["deck", "row"] (defScope s_p_law_pick) := ⟨rfl, rfl, rfl, by decide +kernel, rfl, by decide +kernel, by decide +kernel⟩
abbrev s_p_law_names : Stmt := topS 63
theorem sc_p_law_names : FnScope [] [] (defScope s_p_law_names) := ⟨rfl, rfl, rfl, by decide +kernel, rfl, by decide +kernel, by decide +kernel⟩
abbrev s_p_law_measures : Stmt := topS 64
theorem sc_p_law_measures : FnScope ["deck", "shape", "bits", "k"] ["deck"] (defScope s_p_law_measures) := ⟨rfl, rfl, rfl, by decide +kernel, rfl, by decide +kernel, by decide +kernel⟩
abbrev s_p_law_int : Stmt := topS 65
theorem sc_p_law_int : FnScope ["got"] ["got"] (defScope s_p_law_int) := ⟨rfl, rfl, rfl, by decide +kernel, rfl, by decide +kernel, by decide +kernel⟩
abbrev s_p_law_same : Stmt := topS 66
theorem sc_p_law_same : FnScope ["got", "due", "k"] ["got", "due"] (defScope s_p_law_same) := ⟨rfl, rfl, rfl, by decide +kernel, rfl, by decide +kernel, by decide +kernel⟩
abbrev s_p_law_rule : Stmt := topS 67
theorem sc_p_law_rule : FnScope ["deck", "now", "keeps", "k", "grain", "age", "raw"] ["deck", "now"] (defScope s_p_law_rule) := ⟨rfl, rfl, rfl, by decide +kernel, rfl, by decide +kernel, by decide +kernel⟩
abbrev s_p_law_first : Stmt := topS 68
theorem sc_p_law_first : FnScope ["rule", "now"] ["rule", "now"] (defScope s_p_law_first) := ⟨rfl, rfl, rfl, by decide +kernel, rfl, by decide +kernel, by decide +kernel⟩
abbrev s_p_law_cells : Stmt := topS 69
theorem sc_p_law_cells : FnScope ["rule", "now", "had", "i", "grain", "age", "low", "k"] ["rule", "now"] (defScope s_p_law_cells) := ⟨rfl, rfl, rfl, by decide +kernel, rfl, by decide +kernel, by decide +kernel⟩
abbrev s_p_law_measured : Stmt := topS 70
theorem sc_p_law_measured : FnScope ["points", "measure", "values", "one", "point", "value"] ["points", "measure"] (defScope s_p_law_measured) := ⟨rfl, rfl, rfl, by decide +kernel, rfl, by decide +kernel, by decide +kernel⟩
abbrev s_p_law_facts : Stmt := topS 71
theorem sc_p_law_facts : FnScope ["rule", "now", "past", "facts", "cell", "keep", "points", "measure", "point"] ["rule", "now", "past"] (defScope s_p_law_facts) := ⟨rfl, rfl, rfl, by decide +kernel, rfl, by decide +kernel, by decide +kernel⟩
abbrev s_p_law_time : Stmt := topS 72
theorem sc_p_law_time : FnScope ["deck", "rule", "now", "choice", "time", "had", "cell"] ["deck", "rule", "now"] (defScope s_p_law_time) := ⟨rfl, rfl, rfl, by decide +kernel, rfl, by decide +kernel, by decide +kernel⟩
abbrev s_p_law_past : Stmt := topS 73
theorem sc_p_law_past : FnScope ["deck", "rule", "now", "held", "time", "k", "number", "value", "key"] ["deck", "rule", "now"] (defScope s_p_law_past) := ⟨rfl, rfl, rfl, by decide +kernel, rfl, by decide +kernel, by decide +kernel⟩
abbrev s_law : Stmt := topS 74
theorem sc_law : FnScope ["script", "deck", "now", "rule", "past", "first", "one", "points", "point"] ["script"] (defScope s_law) := ⟨rfl, rfl, rfl, by decide +kernel, rfl, by decide +kernel, by decide +kernel⟩
structure Txt (K : PySem.W.Frag) (w : World) (mg : Str → Option Value) where
  is_measure_a : Addr
  is_measure_fd : FuncData
  is_measure_F : Fun K "is_measure" "is_measure" s_is_measure is_measure_a is_measure_fd
  is_measure_m : mg "is_measure" = some (.ref is_measure_a)
  is_int_a : Addr
  is_int_fd : FuncData
  is_int_F : Fun K "is_int" "is_int" s_is_int is_int_a is_int_fd
  is_int_m : mg "is_int" = some (.ref is_int_a)
  is_count_a : Addr
  is_count_fd : FuncData
  is_count_F : Fun K "is_count" "is_count" s_is_count is_count_a is_count_fd
  is_count_m : mg "is_count" = some (.ref is_count_a)
  is_int_within_a : Addr
  is_int_within_fd : FuncData
  is_int_within_F : Fun K "is_int_within" "is_int_within" s_is_int_within is_int_within_a is_int_within_fd
  is_int_within_m : mg "is_int_within" = some (.ref is_int_within_a)
  is_tuple_of_a : Addr
  is_tuple_of_fd : FuncData
  is_tuple_of_F : Fun K "is_tuple_of" "is_tuple_of" s_is_tuple_of is_tuple_of_a is_tuple_of_fd
  is_tuple_of_m : mg "is_tuple_of" = some (.ref is_tuple_of_a)
  is_point_a : Addr
  is_point_fd : FuncData
  is_point_F : Fun K "is_point" "is_point" s_is_point is_point_a is_point_fd
  is_point_m : mg "is_point" = some (.ref is_point_a)
  place_of_a : Addr
  place_of_fd : FuncData
  place_of_F : Fun K "place_of" "place_of" s_place_of place_of_a place_of_fd
  place_of_m : mg "place_of" = some (.ref place_of_a)
  is_past_a : Addr
  is_past_fd : FuncData
  is_past_F : Fun K "is_past" "is_past" s_is_past is_past_a is_past_fd
  is_past_m : mg "is_past" = some (.ref is_past_a)
  is_past_up_to_a : Addr
  is_past_up_to_fd : FuncData
  is_past_up_to_F : Fun K "is_past_up_to" "is_past_up_to" s_is_past_up_to is_past_up_to_a is_past_up_to_fd
  is_past_up_to_m : mg "is_past_up_to" = some (.ref is_past_up_to_a)
  check_past_up_to_a : Addr
  check_past_up_to_fd : FuncData
  check_past_up_to_F : Fun K "check_past_up_to" "check_past_up_to" s_check_past_up_to check_past_up_to_a check_past_up_to_fd
  check_past_up_to_m : mg "check_past_up_to" = some (.ref check_past_up_to_a)
  count_of_a : Addr
  count_of_fd : FuncData
  count_of_F : Fun K "count_of" "count_of" s_count_of count_of_a count_of_fd
  count_of_m : mg "count_of" = some (.ref count_of_a)
  sum_of_a : Addr
  sum_of_fd : FuncData
  sum_of_F : Fun K "sum_of" "sum_of" s_sum_of sum_of_a sum_of_fd
  sum_of_m : mg "sum_of" = some (.ref sum_of_a)
  squares_of_a : Addr
  squares_of_fd : FuncData
  squares_of_F : Fun K "squares_of" "squares_of" s_squares_of squares_of_a squares_of_fd
  squares_of_m : mg "squares_of" = some (.ref squares_of_a)
  least_of_a : Addr
  least_of_fd : FuncData
  least_of_F : Fun K "least_of" "least_of" s_least_of least_of_a least_of_fd
  least_of_m : mg "least_of" = some (.ref least_of_a)
  greatest_of_a : Addr
  greatest_of_fd : FuncData
  greatest_of_F : Fun K "greatest_of" "greatest_of" s_greatest_of greatest_of_a greatest_of_fd
  greatest_of_m : mg "greatest_of" = some (.ref greatest_of_a)
  first_of_a : Addr
  first_of_fd : FuncData
  first_of_F : Fun K "first_of" "first_of" s_first_of first_of_a first_of_fd
  first_of_m : mg "first_of" = some (.ref first_of_a)
  last_of_a : Addr
  last_of_fd : FuncData
  last_of_F : Fun K "last_of" "last_of" s_last_of last_of_a last_of_fd
  last_of_m : mg "last_of" = some (.ref last_of_a)
  measured_a : Addr
  measured_fd : FuncData
  measured_F : Fun K "measured" "measured" s_measured measured_a measured_fd
  measured_m : mg "measured" = some (.ref measured_a)
  is_moment_a : Addr
  is_moment_fd : FuncData
  is_moment_F : Fun K "is_moment" "is_moment" s_is_moment is_moment_a is_moment_fd
  is_moment_m : mg "is_moment" = some (.ref is_moment_a)
  is_grain_a : Addr
  is_grain_fd : FuncData
  is_grain_F : Fun K "is_grain" "is_grain" s_is_grain is_grain_a is_grain_fd
  is_grain_m : mg "is_grain" = some (.ref is_grain_a)
  is_age_a : Addr
  is_age_fd : FuncData
  is_age_F : Fun K "is_age" "is_age" s_is_age is_age_a is_age_fd
  is_age_m : mg "is_age" = some (.ref is_age_a)
  is_row_of_measures_a : Addr
  is_row_of_measures_fd : FuncData
  is_row_of_measures_F : Fun K "is_row_of_measures" "is_row_of_measures" s_is_row_of_measures is_row_of_measures_a is_row_of_measures_fd
  is_row_of_measures_m : mg "is_row_of_measures" = some (.ref is_row_of_measures_a)
  is_keep_a : Addr
  is_keep_fd : FuncData
  is_keep_F : Fun K "is_keep" "is_keep" s_is_keep is_keep_a is_keep_fd
  is_keep_m : mg "is_keep" = some (.ref is_keep_a)
  is_row_of_keeps_a : Addr
  is_row_of_keeps_fd : FuncData
  is_row_of_keeps_F : Fun K "is_row_of_keeps" "is_row_of_keeps" s_is_row_of_keeps is_row_of_keeps_a is_row_of_keeps_fd
  is_row_of_keeps_m : mg "is_row_of_keeps" = some (.ref is_row_of_keeps_a)
  is_rule_a : Addr
  is_rule_fd : FuncData
  is_rule_F : Fun K "is_rule" "is_rule" s_is_rule is_rule_a is_rule_fd
  is_rule_m : mg "is_rule" = some (.ref is_rule_a)
  check_rule_a : Addr
  check_rule_fd : FuncData
  check_rule_F : Fun K "check_rule" "check_rule" s_check_rule check_rule_a check_rule_fd
  check_rule_m : mg "check_rule" = some (.ref check_rule_a)
  check_moment_a : Addr
  check_moment_fd : FuncData
  check_moment_F : Fun K "check_moment" "check_moment" s_check_moment check_moment_a check_moment_fd
  check_moment_m : mg "check_moment" = some (.ref check_moment_a)
  first_time_a : Addr
  first_time_fd : FuncData
  first_time_F : Fun K "first_time" "first_time" s_first_time first_time_a first_time_fd
  first_time_m : mg "first_time" = some (.ref first_time_a)
  first_cell_a : Addr
  first_cell_fd : FuncData
  first_cell_F : Fun K "first_cell" "first_cell" s_first_cell first_cell_a first_cell_fd
  first_cell_m : mg "first_cell" = some (.ref first_cell_a)
  last_cell_a : Addr
  last_cell_fd : FuncData
  last_cell_F : Fun K "last_cell" "last_cell" s_last_cell last_cell_a last_cell_fd
  last_cell_m : mg "last_cell" = some (.ref last_cell_a)
  cell_numbers_a : Addr
  cell_numbers_fd : FuncData
  cell_numbers_F : Fun K "cell_numbers" "cell_numbers" s_cell_numbers cell_numbers_a cell_numbers_fd
  cell_numbers_m : mg "cell_numbers" = some (.ref cell_numbers_a)
  cells_a : Addr
  cells_fd : FuncData
  cells_F : Fun K "cells" "cells" s_cells cells_a cells_fd
  cells_m : mg "cells" = some (.ref cells_a)
  points_left_a : Addr
  points_left_fd : FuncData
  points_left_F : Fun K "points_left" "points_left" s_points_left points_left_a points_left_fd
  points_left_m : mg "points_left" = some (.ref points_left_a)
  points_by_cell_a : Addr
  points_by_cell_fd : FuncData
  points_by_cell_F : Fun K "points_by_cell" "points_by_cell" s_points_by_cell points_by_cell_a points_by_cell_fd
  points_by_cell_m : mg "points_by_cell" = some (.ref points_by_cell_a)
  facts_of_cell_a : Addr
  facts_of_cell_fd : FuncData
  facts_of_cell_F : Fun K "facts_of_cell" "facts_of_cell" s_facts_of_cell facts_of_cell_a facts_of_cell_fd
  facts_of_cell_m : mg "facts_of_cell" = some (.ref facts_of_cell_a)
  facts_of_keep_a : Addr
  facts_of_keep_fd : FuncData
  facts_of_keep_F : Fun K "facts_of_keep" "facts_of_keep" s_facts_of_keep facts_of_keep_a facts_of_keep_fd
  facts_of_keep_m : mg "facts_of_keep" = some (.ref facts_of_keep_a)
  left_a : Addr
  left_fd : FuncData
  left_F : Fun K "left" "left" s_left left_a left_fd
  left_m : mg "left" = some (.ref left_a)
  p_law_deck_a : Addr
  p_law_deck_fd : FuncData
  p_law_deck_F : Fun K "_law_deck" "_law_deck" s_p_law_deck p_law_deck_a p_law_deck_fd
  p_law_deck_m : mg "_law_deck" = some (.ref p_law_deck_a)
  p_law_draw_a : Addr
  p_law_draw_fd : FuncData
  p_law_draw_F : Fun K "_law_draw" "_law_draw" s_p_law_draw p_law_draw_a p_law_draw_fd
  p_law_draw_m : mg "_law_draw" = some (.ref p_law_draw_a)
  p_law_pick_a : Addr
  p_law_pick_fd : FuncData
  p_law_pick_F : Fun K "_law_pick" "_law_pick" s_p_law_pick p_law_pick_a p_law_pick_fd
  p_law_pick_m : mg "_law_pick" = some (.ref p_law_pick_a)
  p_law_names_a : Addr
  p_law_names_fd : FuncData
  p_law_names_F : Fun K "_law_names" "_law_names" s_p_law_names p_law_names_a p_law_names_fd
  p_law_names_m : mg "_law_names" = some (.ref p_law_names_a)
  p_law_measures_a : Addr
  p_law_measures_fd : FuncData
  p_law_measures_F : Fun K "_law_measures" "_law_measures" s_p_law_measures p_law_measures_a p_law_measures_fd
  p_law_measures_m : mg "_law_measures" = some (.ref p_law_measures_a)
  p_law_int_a : Addr
  p_law_int_fd : FuncData
  p_law_int_F : Fun K "_law_int" "_law_int" s_p_law_int p_law_int_a p_law_int_fd
  p_law_int_m : mg "_law_int" = some (.ref p_law_int_a)
  p_law_same_a : Addr
  p_law_same_fd : FuncData
  p_law_same_F : Fun K "_law_same" "_law_same" s_p_law_same p_law_same_a p_law_same_fd
  p_law_same_m : mg "_law_same" = some (.ref p_law_same_a)
  p_law_rule_a : Addr
  p_law_rule_fd : FuncData
  p_law_rule_F : Fun K "_law_rule" "_law_rule" s_p_law_rule p_law_rule_a p_law_rule_fd
  p_law_rule_m : mg "_law_rule" = some (.ref p_law_rule_a)
  p_law_first_a : Addr
  p_law_first_fd : FuncData
  p_law_first_F : Fun K "_law_first" "_law_first" s_p_law_first p_law_first_a p_law_first_fd
  p_law_first_m : mg "_law_first" = some (.ref p_law_first_a)
  p_law_cells_a : Addr
  p_law_cells_fd : FuncData
  p_law_cells_F : Fun K "_law_cells" "_law_cells" s_p_law_cells p_law_cells_a p_law_cells_fd
  p_law_cells_m : mg "_law_cells" = some (.ref p_law_cells_a)
  p_law_measured_a : Addr
  p_law_measured_fd : FuncData
  p_law_measured_F : Fun K "_law_measured" "_law_measured" s_p_law_measured p_law_measured_a p_law_measured_fd
  p_law_measured_m : mg "_law_measured" = some (.ref p_law_measured_a)
  p_law_facts_a : Addr
  p_law_facts_fd : FuncData
  p_law_facts_F : Fun K "_law_facts" "_law_facts" s_p_law_facts p_law_facts_a p_law_facts_fd
  p_law_facts_m : mg "_law_facts" = some (.ref p_law_facts_a)
  p_law_time_a : Addr
  p_law_time_fd : FuncData
  p_law_time_F : Fun K "_law_time" "_law_time" s_p_law_time p_law_time_a p_law_time_fd
  p_law_time_m : mg "_law_time" = some (.ref p_law_time_a)
  p_law_past_a : Addr
  p_law_past_fd : FuncData
  p_law_past_F : Fun K "_law_past" "_law_past" s_p_law_past p_law_past_a p_law_past_fd
  p_law_past_m : mg "_law_past" = some (.ref p_law_past_a)
  law_a : Addr
  law_fd : FuncData
  law_F : Fun K "law" "law" s_law law_a law_fd
  law_m : mg "law" = some (.ref law_a)
  b_all : mg "all" = none
  b_bool : mg "bool" = none
  b_enumerate : mg "enumerate" = none
  b_int : mg "int" = none
  b_isinstance : mg "isinstance" = none
  b_len : mg "len" = none
  b_list : mg "list" = none
  b_max : mg "max" = none
  b_min : mg "min" = none
  b_range : mg "range" = none
  b_sorted : mg "sorted" = none
  b_str : mg "str" = none
  b_sum : mg "sum" = none
  b_tuple : mg "tuple" = none
  COUNT_t : Tok
  c_COUNT : mg "COUNT" = some (.str "count" COUNT_t)
  FIRST_t : Tok
  c_FIRST : mg "FIRST" = some (.str "first" FIRST_t)
  GREATEST_t : Tok
  c_GREATEST : mg "GREATEST" = some (.str "greatest" GREATEST_t)
  LAST_t : Tok
  c_LAST : mg "LAST" = some (.str "last" LAST_t)
  LEAST_t : Tok
  c_LEAST : mg "LEAST" = some (.str "least" LEAST_t)
  MEASURES_a : Addr
  c_MEASURES : mg "MEASURES" = some (.ref MEASURES_a)
  d_MEASURES : ∀ G, DV K G (.tpl [.str "count", .str "first", .str "greatest", .str "last", .str "least", .str "squares", .str "sum"]) (.ref MEASURES_a)
  MOST_AGE_t : Tok
  c_MOST_AGE : mg "MOST_AGE" = some (.int 10000 MOST_AGE_t)
  MOST_GRAIN_t : Tok
  c_MOST_GRAIN : mg "MOST_GRAIN" = some (.int 1000 MOST_GRAIN_t)
  MOST_KEEPS_t : Tok
  c_MOST_KEEPS : mg "MOST_KEEPS" = some (.int 6 MOST_KEEPS_t)
  MOST_MOMENT_t : Tok
  c_MOST_MOMENT : mg "MOST_MOMENT" = some (.int 100000 MOST_MOMENT_t)
  SQUARES_t : Tok
  c_SQUARES : mg "SQUARES" = some (.str "squares" SQUARES_t)
theorem Txt.is_measure_b {K : PySem.W.Frag} {w : World} {mg : Str → Option Value} (T : Txt K w mg) : Binds K T.is_measure_fd ["value"] [] := T.is_measure_F.binds fun _ _ _ _ _ _ us hl => match us, hl with | [_], _ => rfl
theorem Txt.is_int_b {K : PySem.W.Frag} {w : World} {mg : Str → Option Value} (T : Txt K w mg) : Binds K T.is_int_fd ["value"] [] := T.is_int_F.binds fun _ _ _ _ _ _ us hl => match us, hl with | [_], _ => rfl
theorem Txt.is_count_b {K : PySem.W.Frag} {w : World} {mg : Str → Option Value} (T : Txt K w mg) : Binds K T.is_count_fd ["value"] [] := T.is_count_F.binds fun _ _ _ _ _ _ us hl => match us, hl with | [_], _ => rfl
theorem Txt.is_int_within_b {K : PySem.W.Frag} {w : World} {mg : Str → Option Value} (T : Txt K w mg) : Binds K T.is_int_within_fd ["value", "low", "high"] [] := T.is_int_within_F.binds fun _ _ _ _ _ _ us hl => match us, hl with | [_, _, _], _ => rfl
theorem Txt.is_tuple_of_b {K : PySem.W.Frag} {w : World} {mg : Str → Option Value} (T : Txt K w mg) : Binds K T.is_tuple_of_fd ["value", "length"] [] := T.is_tuple_of_F.binds fun _ _ _ _ _ _ us hl => match us, hl with | [_, _], _ => rfl
theorem Txt.is_point_b {K : PySem.W.Frag} {w : World} {mg : Str → Option Value} (T : Txt K w mg) : Binds K T.is_point_fd ["value"] [] := T.is_point_F.binds fun _ _ _ _ _ _ us hl => match us, hl with | [_], _ => rfl
theorem Txt.place_of_b {K : PySem.W.Frag} {w : World} {mg : Str → Option Value} (T : Txt K w mg) : Binds K T.place_of_fd ["point"] [] := T.place_of_F.binds fun _ _ _ _ _ _ us hl => match us, hl with | [_], _ => rfl
theorem Txt.is_past_b {K : PySem.W.Frag} {w : World} {mg : Str → Option Value} (T : Txt K w mg) : Binds K T.is_past_fd ["value"] [] := T.is_past_F.binds fun _ _ _ _ _ _ us hl => match us, hl with | [_], _ => rfl
theorem Txt.is_past_up_to_b {K : PySem.W.Frag} {w : World} {mg : Str → Option Value} (T : Txt K w mg) : Binds K T.is_past_up_to_fd ["value", "now"] [] := T.is_past_up_to_F.binds fun _ _ _ _ _ _ us hl => match us, hl with | [_, _], _ => rfl
theorem Txt.check_past_up_to_b {K : PySem.W.Frag} {w : World} {mg : Str → Option Value} (T : Txt K w mg) : Binds K T.check_past_up_to_fd ["past", "now"] [] := T.check_past_up_to_F.binds fun _ _ _ _ _ _ us hl => match us, hl with | [_, _], _ => rfl
theorem Txt.count_of_b {K : PySem.W.Frag} {w : World} {mg : Str → Option Value} (T : Txt K w mg) : Binds K T.count_of_fd ["points"] [] := T.count_of_F.binds fun _ _ _ _ _ _ us hl => match us, hl with | [_], _ => rfl
theorem Txt.sum_of_b {K : PySem.W.Frag} {w : World} {mg : Str → Option Value} (T : Txt K w mg) : Binds K T.sum_of_fd ["points"] [] := T.sum_of_F.binds fun _ _ _ _ _ _ us hl => match us, hl with | [_], _ => rfl
theorem Txt.squares_of_b {K : PySem.W.Frag} {w : World} {mg : Str → Option Value} (T : Txt K w mg) : Binds K T.squares_of_fd ["points"] [] := T.squares_of_F.binds fun _ _ _ _ _ _ us hl => match us, hl with | [_], _ => rfl
theorem Txt.least_of_b {K : PySem.W.Frag} {w : World} {mg : Str → Option Value} (T : Txt K w mg) : Binds K T.least_of_fd ["points"] [] := T.least_of_F.binds fun _ _ _ _ _ _ us hl => match us, hl with | [_], _ => rfl
theorem Txt.greatest_of_b {K : PySem.W.Frag} {w : World} {mg : Str → Option Value} (T : Txt K w mg) : Binds K T.greatest_of_fd ["points"] [] := T.greatest_of_F.binds fun _ _ _ _ _ _ us hl => match us, hl with | [_], _ => rfl
theorem Txt.first_of_b {K : PySem.W.Frag} {w : World} {mg : Str → Option Value} (T : Txt K w mg) : Binds K T.first_of_fd ["points"] [] := T.first_of_F.binds fun _ _ _ _ _ _ us hl => match us, hl with | [_], _ => rfl
theorem Txt.last_of_b {K : PySem.W.Frag} {w : World} {mg : Str → Option Value} (T : Txt K w mg) : Binds K T.last_of_fd ["points"] [] := T.last_of_F.binds fun _ _ _ _ _ _ us hl => match us, hl with | [_], _ => rfl
theorem Txt.measured_b {K : PySem.W.Frag} {w : World} {mg : Str → Option Value} (T : Txt K w mg) : Binds K T.measured_fd ["points", "measure"] [] := T.measured_F.binds fun _ _ _ _ _ _ us hl => match us, hl with | [_, _], _ => rfl
theorem Txt.is_moment_b {K : PySem.W.Frag} {w : World} {mg : Str → Option Value} (T : Txt K w mg) : Binds K T.is_moment_fd ["value"] [] := T.is_moment_F.binds fun _ _ _ _ _ _ us hl => match us, hl with | [_], _ => rfl
theorem Txt.is_grain_b {K : PySem.W.Frag} {w : World} {mg : Str → Option Value} (T : Txt K w mg) : Binds K T.is_grain_fd ["value"] [] := T.is_grain_F.binds fun _ _ _ _ _ _ us hl => match us, hl with | [_], _ => rfl
theorem Txt.is_age_b {K : PySem.W.Frag} {w : World} {mg : Str → Option Value} (T : Txt K w mg) : Binds K T.is_age_fd ["value"] [] := T.is_age_F.binds fun _ _ _ _ _ _ us hl => match us, hl with | [_], _ => rfl
theorem Txt.is_row_of_measures_b {K : PySem.W.Frag} {w : World} {mg : Str → Option Value} (T : Txt K w mg) : Binds K T.is_row_of_measures_fd ["value"] [] := T.is_row_of_measures_F.binds fun _ _ _ _ _ _ us hl => match us, hl with | [_], _ => rfl
theorem Txt.is_keep_b {K : PySem.W.Frag} {w : World} {mg : Str → Option Value} (T : Txt K w mg) : Binds K T.is_keep_fd ["value"] [] := T.is_keep_F.binds fun _ _ _ _ _ _ us hl => match us, hl with | [_], _ => rfl
theorem Txt.is_row_of_keeps_b {K : PySem.W.Frag} {w : World} {mg : Str → Option Value} (T : Txt K w mg) : Binds K T.is_row_of_keeps_fd ["value"] [] := T.is_row_of_keeps_F.binds fun _ _ _ _ _ _ us hl => match us, hl with | [_], _ => rfl
theorem Txt.is_rule_b {K : PySem.W.Frag} {w : World} {mg : Str → Option Value} (T : Txt K w mg) : Binds K T.is_rule_fd ["value"] [] := T.is_rule_F.binds fun _ _ _ _ _ _ us hl => match us, hl with | [_], _ => rfl
theorem Txt.check_rule_b {K : PySem.W.Frag} {w : World} {mg : Str → Option Value} (T : Txt K w mg) : Binds K T.check_rule_fd ["rule"] [] := T.check_rule_F.binds fun _ _ _ _ _ _ us hl => match us, hl with | [_], _ => rfl
theorem Txt.check_moment_b {K : PySem.W.Frag} {w : World} {mg : Str → Option Value} (T : Txt K w mg) : Binds K T.check_moment_fd ["now"] [] := T.check_moment_F.binds fun _ _ _ _ _ _ us hl => match us, hl with | [_], _ => rfl
theorem Txt.first_time_b {K : PySem.W.Frag} {w : World} {mg : Str → Option Value} (T : Txt K w mg) : Binds K T.first_time_fd ["rule", "now"] [] := T.first_time_F.binds fun _ _ _ _ _ _ us hl => match us, hl with | [_, _], _ => rfl
theorem Txt.first_cell_b {K : PySem.W.Frag} {w : World} {mg : Str → Option Value} (T : Txt K w mg) : Binds K T.first_cell_fd ["keep", "now"] [] := T.first_cell_F.binds fun _ _ _ _ _ _ us hl => match us, hl with | [_, _], _ => rfl
theorem Txt.last_cell_b {K : PySem.W.Frag} {w : World} {mg : Str → Option Value} (T : Txt K w mg) : Binds K T.last_cell_fd ["keep", "now"] [] := T.last_cell_F.binds fun _ _ _ _ _ _ us hl => match us, hl with | [_, _], _ => rfl
theorem Txt.cell_numbers_b {K : PySem.W.Frag} {w : World} {mg : Str → Option Value} (T : Txt K w mg) : Binds K T.cell_numbers_fd ["keep", "now"] [] := T.cell_numbers_F.binds fun _ _ _ _ _ _ us hl => match us, hl with | [_, _], _ => rfl
theorem Txt.cells_b {K : PySem.W.Frag} {w : World} {mg : Str → Option Value} (T : Txt K w mg) : Binds K T.cells_fd ["rule", "now"] [] := T.cells_F.binds fun _ _ _ _ _ _ us hl => match us, hl with | [_, _], _ => rfl
theorem Txt.points_left_b {K : PySem.W.Frag} {w : World} {mg : Str → Option Value} (T : Txt K w mg) : Binds K T.points_left_fd ["rule", "now", "past"] [] := T.points_left_F.binds fun _ _ _ _ _ _ us hl => match us, hl with | [_, _, _], _ => rfl
theorem Txt.points_by_cell_b {K : PySem.W.Frag} {w : World} {mg : Str → Option Value} (T : Txt K w mg) : Binds K T.points_by_cell_fd ["keep", "past"] [] := T.points_by_cell_F.binds fun _ _ _ _ _ _ us hl => match us, hl with | [_, _], _ => rfl
theorem Txt.facts_of_cell_b {K : PySem.W.Frag} {w : World} {mg : Str → Option Value} (T : Txt K w mg) : Binds K T.facts_of_cell_fd ["place", "k", "keep", "points"] [] := T.facts_of_cell_F.binds fun _ _ _ _ _ _ us hl => match us, hl with | [_, _, _, _], _ => rfl
theorem Txt.facts_of_keep_b {K : PySem.W.Frag} {w : World} {mg : Str → Option Value} (T : Txt K w mg) : Binds K T.facts_of_keep_fd ["place", "keep", "now", "past"] [] := T.facts_of_keep_F.binds fun _ _ _ _ _ _ us hl => match us, hl with | [_, _, _, _], _ => rfl
theorem Txt.left_b {K : PySem.W.Frag} {w : World} {mg : Str → Option Value} (T : Txt K w mg) : Binds K T.left_fd ["rule", "now", "past"] [] := T.left_F.binds fun _ _ _ _ _ _ us hl => match us, hl with | [_, _, _], _ => rfl
theorem Txt.p_law_deck_b {K : PySem.W.Frag} {w : World} {mg : Str → Option Value} (T : Txt K w mg) : Binds K T.p_law_deck_fd ["script", "salt"] [] := T.p_law_deck_F.binds fun _ _ _ _ _ _ us hl => match us, hl with | [_, _], _ => rfl
theorem Txt.p_law_draw_b {K : PySem.W.Frag} {w : World} {mg : Str → Option Value} (T : Txt K w mg) : Binds K T.p_law_draw_fd ["deck", "many"] [] := T.p_law_draw_F.binds fun _ _ _ _ _ _ us hl => match us, hl with | [_, _], _ => rfl
theorem Txt.p_law_pick_b {K : PySem.W.Frag} {w : World} {mg : Str → Option Value} (T : Txt K w mg) : Binds K T.p_law_pick_fd ["deck", "row"] [] := T.p_law_pick_F.binds fun _ _ _ _ _ _ us hl => match us, hl with | [_, _], _ => rfl
theorem Txt.p_law_names_b {K : PySem.W.Frag} {w : World} {mg : Str → Option Value} (T : Txt K w mg) : Binds K T.p_law_names_fd [] [] := T.p_law_names_F.binds fun _ _ _ _ _ _ us hl => match us, hl with | [], _ => rfl
theorem Txt.p_law_measures_b {K : PySem.W.Frag} {w : World} {mg : Str → Option Value} (T : Txt K w mg) : Binds K T.p_law_measures_fd ["deck"] [] := T.p_law_measures_F.binds fun _ _ _ _ _ _ us hl => match us, hl with | [_], _ => rfl
theorem Txt.p_law_int_b {K : PySem.W.Frag} {w : World} {mg : Str → Option Value} (T : Txt K w mg) : Binds K T.p_law_int_fd ["got"] [] := T.p_law_int_F.binds fun _ _ _ _ _ _ us hl => match us, hl with | [_], _ => rfl
theorem Txt.p_law_same_b {K : PySem.W.Frag} {w : World} {mg : Str → Option Value} (T : Txt K w mg) : Binds K T.p_law_same_fd ["got", "due"] [] := T.p_law_same_F.binds fun _ _ _ _ _ _ us hl => match us, hl with | [_, _], _ => rfl
theorem Txt.p_law_rule_b {K : PySem.W.Frag} {w : World} {mg : Str → Option Value} (T : Txt K w mg) : Binds K T.p_law_rule_fd ["deck", "now"] [] := T.p_law_rule_F.binds fun _ _ _ _ _ _ us hl => match us, hl with | [_, _], _ => rfl
theorem Txt.p_law_first_b {K : PySem.W.Frag} {w : World} {mg : Str → Option Value} (T : Txt K w mg) : Binds K T.p_law_first_fd ["rule", "now"] [] := T.p_law_first_F.binds fun _ _ _ _ _ _ us hl => match us, hl with | [_, _], _ => rfl
theorem Txt.p_law_cells_b {K : PySem.W.Frag} {w : World} {mg : Str → Option Value} (T : Txt K w mg) : Binds K T.p_law_cells_fd ["rule", "now"] [] := T.p_law_cells_F.binds fun _ _ _ _ _ _ us hl => match us, hl with | [_, _], _ => rfl
theorem Txt.p_law_measured_b {K : PySem.W.Frag} {w : World} {mg : Str → Option Value} (T : Txt K w mg) : Binds K T.p_law_measured_fd ["points", "measure"] [] := T.p_law_measured_F.binds fun _ _ _ _ _ _ us hl => match us, hl with | [_, _], _ => rfl
theorem Txt.p_law_facts_b {K : PySem.W.Frag} {w : World} {mg : Str → Option Value} (T : Txt K w mg) : Binds K T.p_law_facts_fd ["rule", "now", "past"] [] := T.p_law_facts_F.binds fun _ _ _ _ _ _ us hl => match us, hl with | [_, _, _], _ => rfl
theorem Txt.p_law_time_b {K : PySem.W.Frag} {w : World} {mg : Str → Option Value} (T : Txt K w mg) : Binds K T.p_law_time_fd ["deck", "rule", "now"] [] := T.p_law_time_F.binds fun _ _ _ _ _ _ us hl => match us, hl with | [_, _, _], _ => rfl
theorem Txt.p_law_past_b {K : PySem.W.Frag} {w : World} {mg : Str → Option Value} (T : Txt K w mg) : Binds K T.p_law_past_fd ["deck", "rule", "now"] [] := T.p_law_past_F.binds fun _ _ _ _ _ _ us hl => match us, hl with | [_, _, _], _ => rfl
theorem Txt.law_b {K : PySem.W.Frag} {w : World} {mg : Str → Option Value} (T : Txt K w mg) : Binds K T.law_fd ["script"] [] := T.law_F.binds fun _ _ _ _ _ _ us hl => match us, hl with | [_], _ => rfl
section
variable [Wd] {P : Program} {K : PySem.W.Frag} {mg : Str → Option Value} {base : Heap}
theorem ok_is_measure (T : Txt K Wd.w mg) : FnOk P Wd.w K mg base CX0 1 T.is_measure_a T.is_measure_fd ["value"] (spD K 1 fn_is_measure) := by
  refine fn_ok (k := 0) (N := ["value"]) T.is_measure_F sc_is_measure fun cdv A outer s H hr => ?_
  have hu := hr.units
  exact ds_one (ds_ret (de_and (cs_isi hf_str rfl (by rfl) T.b_isinstance (de_v (pv 0)) (pe_bltn (by rfl) T.b_str (by decide +kernel) rfl)) (de_one (de_cmp (opr_in hu) (by first | exact nobehind _ (by decide) (by decide) | rfl) os_in (de_v (pv 0)) (de_c (v := .ref T.MEASURES_a) (pe_glob (by rfl) T.c_MEASURES rfl) fun G => T.d_MEASURES G)))))
theorem ok_is_int (T : Txt K Wd.w mg) : FnOk P Wd.w K mg base CX0 1 T.is_int_a T.is_int_fd ["value"] (spD K 1 fn_is_int) := by
  refine fn_ok (k := 0) (N := ["value"]) T.is_int_F sc_is_int fun cdv A outer s H hr => ?_
  have hu := hr.units
  exact ds_one (ds_ret (de_and (cs_isi hf_int rfl (by rfl) T.b_isinstance (de_v (pv 0)) (pe_bltn (by rfl) T.b_int (by decide +kernel) rfl)) (de_one (de_not (cs_isi hf_bool rfl (by rfl) T.b_isinstance (de_v (pv 0)) (pe_bltn (by rfl) T.b_bool (by decide +kernel) rfl))))))
theorem ok_is_count (T : Txt K Wd.w mg) : FnOk P Wd.w K mg base CX0 2 T.is_count_a T.is_count_fd ["value"] (spD K 1 fn_is_count) := by
  refine fn_ok (k := 1) (N := ["value"]) T.is_count_F sc_is_count fun cdv A outer s H hr => ?_
  have hu := hr.units
  exact ds_one (ds_ret (de_and (de_call (ds0 := []) (ok_is_int T) (hr.mono (by decide)) (by rfl) T.is_int_m T.is_int_F.kp T.is_int_b .nil (fun _ => rfl) (da_cons (de_v (pv 0)) (da_nil))) (de_one (de_cmp (opr_ge hu) (by first | exact nobehind _ (by decide) (by decide) | rfl) os_ge (de_v (pv 0)) (de_int)))))
theorem ok_is_int_within (T : Txt K Wd.w mg) : FnOk P Wd.w K mg base CX0 2 T.is_int_within_a T.is_int_within_fd ["value", "low", "high"] (spD K 3 fn_is_int_within) := by
  refine fn_ok (k := 1) (N := ["value", "low", "high"]) T.is_int_within_F sc_is_int_within fun cdv A outer s H hr => ?_
  have hu := hr.units
  exact ds_one (ds_ret (de_and (de_call (ds0 := []) (ok_is_int T) (hr.mono (by decide)) (by rfl) T.is_int_m T.is_int_F.kp T.is_int_b .nil (fun _ => rfl) (da_cons (de_v (pv 0)) (da_nil))) (de_one (de_chain (opr_le hu) (opr_le hu) os_le os_le (de_v (pv 1)) (de_v (pv 0)) (de_v (pv 2))))))
theorem ok_is_tuple_of (T : Txt K Wd.w mg) : FnOk P Wd.w K mg base CX0 1 T.is_tuple_of_a T.is_tuple_of_fd ["value", "length"] (spD K 2 fn_is_tuple_of) := by
  refine fn_ok (k := 0) (N := ["value", "length"]) T.is_tuple_of_F sc_is_tuple_of fun cdv A outer s H hr => ?_
  have hu := hr.units
  exact ds_one (ds_ret (de_and (cs_isi hf_tuple rfl (by rfl) T.b_isinstance (de_v (pv 0)) (pe_bltn (by rfl) T.b_tuple (by decide +kernel) rfl)) (de_one (de_cmp (opr_eq hu) (by first | exact nobehind _ (by decide) (by decide) | rfl) os_eq (de_c1 cr_len cs_len (by rfl) T.b_len PySem.boot_len (de_v (pv 0))) (de_v (pv 1))))))
theorem ok_is_point (T : Txt K Wd.w mg) : FnOk P Wd.w K mg base CX0 3 T.is_point_a T.is_point_fd ["value"] (spD K 1 fn_is_point) := by
  refine fn_ok (k := 2) (N := ["value"]) T.is_point_F sc_is_point fun cdv A outer s H hr => ?_
  have hu := hr.units
  exact ds_cons (ds_if (dt_not (dt_tru (de_call (ds0 := []) (ok_is_tuple_of T) (hr.mono (by decide)) (by rfl) T.is_tuple_of_m T.is_tuple_of_F.kp T.is_tuple_of_b .nil (fun _ => rfl) (da_cons (de_v (pv 0)) (da_cons (de_int) (da_nil)))))) (ds_one (ds_ret (de_bl))) (ds_nil))
      (ds_one (ds_ret (de_and (de_call (ds0 := []) (ok_is_count T) (hr.mono (by decide)) (by rfl) T.is_count_m T.is_count_F.kp T.is_count_b .nil (fun _ => rfl) (da_cons (de_ix (ixr hu) (fun _ _ => rfl) os_ix (de_v (pv 0)) (de_int)) (da_nil))) (de_and (de_call (ds0 := []) (ok_is_count T) (hr.mono (by decide)) (by rfl) T.is_count_m T.is_count_F.kp T.is_count_b .nil (fun _ => rfl) (da_cons (de_ix (ixr hu) (fun _ _ => rfl) os_ix (de_v (pv 0)) (de_int)) (da_nil))) (de_one (de_call (ds0 := []) (ok_is_int T) (hr.mono (by decide)) (by rfl) T.is_int_m T.is_int_F.kp T.is_int_b .nil (fun _ => rfl) (da_cons (de_ix (ixr hu) (fun _ _ => rfl) os_ix (de_v (pv 0)) (de_int)) (da_nil))))))))
theorem ok_place_of (T : Txt K Wd.w mg) : FnOk P Wd.w K mg base CX0 1 T.place_of_a T.place_of_fd ["point"] (spD K 1 fn_place_of) := by
  refine fn_ok (k := 0) (N := ["point"]) T.place_of_F sc_place_of fun cdv A outer s H hr => ?_
  have hu := hr.units
  exact ds_one (ds_ret (de_tup (da_cons (de_ix (ixr hu) (fun _ _ => rfl) os_ix (de_v (pv 0)) (de_int)) (da_cons (de_ix (ixr hu) (fun _ _ => rfl) os_ix (de_v (pv 0)) (de_int)) (da_nil)))))
theorem ok_is_past (T : Txt K Wd.w mg) : FnOk P Wd.w K mg base CX0 4 T.is_past_a T.is_past_fd ["value"] (spD K 1 fn_is_past) := by
  refine fn_ok (k := 3) (N := ["value", "ahead", "point"]) T.is_past_F sc_is_past fun cdv A outer s H hr => ?_
  have hu := hr.units
  exact ds_cons (ds_if (dt_not (dt_tru (cs_isi hf_tuple rfl (by rfl) T.b_isinstance (de_v (pv 0)) (pe_bltn (by rfl) T.b_tuple (by decide +kernel) rfl)))) (ds_one (ds_ret (de_bl))) (ds_nil))
      (ds_cons (ds_set (i := 1) sc_is_past.nd rfl (by first | exact .inl rfl | exact .inr rfl) (de_non))
      (ds_cons (ds_for PassesOwn.never rfl (di_e (de_v (pv 0))) (dg_n (i := 2) sc_is_past.nd rfl (by first | exact .inl rfl | exact .inr rfl)) (ds_cons (ds_if (dt_not (dt_tru (de_call (ds0 := []) (ok_is_point T) (hr.mono (by decide)) (by rfl) T.is_point_m T.is_point_F.kp T.is_point_b .nil (fun _ => rfl) (da_cons (de_v (pv 2)) (da_nil))))) (ds_one (ds_ret (de_bl))) (ds_nil))
      (ds_cons (ds_if ((dw_and (dt_cmp op_notN (by first | exact nobehind _ (by decide) (by decide) | rfl) os_isnot (de_v (pv 1)) (de_non)) (dw_and1 (dt_cmp (opr_le hu) (by first | exact nobehind _ (by decide) (by decide) | rfl) os_le (de_call (ds0 := []) (ok_place_of T) (hr.mono (by decide)) (by rfl) T.place_of_m T.place_of_F.kp T.place_of_b .nil (fun _ => rfl) (da_cons (de_v (pv 2)) (da_nil))) (de_v (pv 1))))).pt) (ds_one (ds_ret (de_bl))) (ds_nil))
      (ds_one (ds_set (i := 1) sc_is_past.nd rfl (by first | exact .inl rfl | exact .inr rfl) (de_call (ds0 := []) (ok_place_of T) (hr.mono (by decide)) (by rfl) T.place_of_m T.place_of_F.kp T.place_of_b .nil (fun _ => rfl) (da_cons (de_v (pv 2)) (da_nil))))))))
      (ds_one (ds_ret (de_bl)))))
theorem ok_is_past_up_to (T : Txt K Wd.w mg) : FnOk P Wd.w K mg base CX0 5 T.is_past_up_to_a T.is_past_up_to_fd ["value", "now"] (spD K 2 fn_is_past_up_to) := by
  refine fn_ok (k := 4) (N := ["value", "now"]) T.is_past_up_to_F sc_is_past_up_to fun cdv A outer s H hr => ?_
  have hu := hr.units
  exact ds_cons (ds_if (dt_not (dt_tru (de_call (ds0 := []) (ok_is_past T) (hr.mono (by decide)) (by rfl) T.is_past_m T.is_past_F.kp T.is_past_b .nil (fun _ => rfl) (da_cons (de_v (pv 0)) (da_nil))))) (ds_one (ds_ret (de_bl))) (ds_nil))
      (ds_one (ds_ret (de_or (de_notT (de_v (pv 0))) (de_one (de_cmp (opr_le hu) (by first | exact nobehind _ (by decide) (by decide) | rfl) os_le (de_ix (ixr hu) (fun _ _ => rfl) os_ix (de_ix (ixr hu) (fun _ _ => rfl) os_ix (de_v (pv 0)) (de_un un_neg us_neg (de_int))) (de_int)) (de_v (pv 1)))))))
theorem ok_check_past_up_to (T : Txt K Wd.w mg) : FnOk P Wd.w K mg base CX0 6 T.check_past_up_to_a T.check_past_up_to_fd ["past", "now"] (spD K 2 fn_check_past_up_to) := by
  refine fn_ok (k := 5) (N := ["past", "now"]) T.check_past_up_to_F sc_check_past_up_to fun cdv A outer s H hr => ?_
  have hu := hr.units
  exact ds_one (ds_if (dt_not (dt_tru (de_call (ds0 := []) (ok_is_past_up_to T) (hr.mono (by decide)) (by rfl) T.is_past_up_to_m T.is_past_up_to_F.kp T.is_past_up_to_b .nil (fun _ => rfl) (da_cons (de_v (pv 0)) (da_cons (de_v (pv 1)) (da_nil)))))) (ds_one (ds_never)) (ds_nil))
theorem ok_count_of (T : Txt K Wd.w mg) : FnOk P Wd.w K mg base CX0 1 T.count_of_a T.count_of_fd ["points"] (spD K 1 fn_count_of) := by
  refine fn_ok (k := 0) (N := ["points"]) T.count_of_F sc_count_of fun cdv A outer s H hr => ?_
  have hu := hr.units
  exact ds_one (ds_ret (de_c1 cr_len cs_len (by rfl) T.b_len PySem.boot_len (de_v (pv 0))))
theorem ok_sum_of (T : Txt K Wd.w mg) : FnOk P Wd.w K mg base CX0 1 T.sum_of_a T.sum_of_fd ["points"] (spD K 1 fn_sum_of) := by
  refine fn_ok (k := 0) (N := ["points", "total", "point"]) T.sum_of_F sc_sum_of fun cdv A outer s H hr => ?_
  have hu := hr.units
  exact ds_cons (ds_set (i := 1) sc_sum_of.nd rfl (by first | exact .inl rfl | exact .inr rfl) (de_int))
      (ds_cons (ds_for PassesOwn.never rfl (di_e (de_v (pv 0))) (dg_n (i := 2) sc_sum_of.nd rfl (by first | exact .inl rfl | exact .inr rfl)) (ds_one (ds_set (i := 1) sc_sum_of.nd rfl (by first | exact .inl rfl | exact .inr rfl) (de_op opr_add os_add (de_v (pv 1)) (de_ix (ixr hu) (fun _ _ => rfl) os_ix (de_v (pv 2)) (de_int))))))
      (ds_one (ds_ret (de_v (pv 1)))))
theorem ok_squares_of (T : Txt K Wd.w mg) : FnOk P Wd.w K mg base CX0 1 T.squares_of_a T.squares_of_fd ["points"] (spD K 1 fn_squares_of) := by
  refine fn_ok (k := 0) (N := ["points", "total", "point"]) T.squares_of_F sc_squares_of fun cdv A outer s H hr => ?_
  have hu := hr.units
  exact ds_cons (ds_set (i := 1) sc_squares_of.nd rfl (by first | exact .inl rfl | exact .inr rfl) (de_int))
      (ds_cons (ds_for PassesOwn.never rfl (di_e (de_v (pv 0))) (dg_n (i := 2) sc_squares_of.nd rfl (by first | exact .inl rfl | exact .inr rfl)) (ds_one (ds_set (i := 1) sc_squares_of.nd rfl (by first | exact .inl rfl | exact .inr rfl) (de_op opr_add os_add (de_v (pv 1)) (de_op opr_mul os_mul (de_ix (ixr hu) (fun _ _ => rfl) os_ix (de_v (pv 2)) (de_int)) (de_ix (ixr hu) (fun _ _ => rfl) os_ix (de_v (pv 2)) (de_int)))))))
      (ds_one (ds_ret (de_v (pv 1)))))
theorem ok_least_of (T : Txt K Wd.w mg) : FnOk P Wd.w K mg base CX0 1 T.least_of_a T.least_of_fd ["points"] (spD K 1 fn_least_of) := by
  refine fn_ok (k := 0) (N := ["points", "least", "point"]) T.least_of_F sc_least_of fun cdv A outer s H hr => ?_
  have hu := hr.units
  exact ds_cons (ds_set (i := 1) sc_least_of.nd rfl (by first | exact .inl rfl | exact .inr rfl) (de_non))
      (ds_cons (ds_for PassesOwn.never rfl (di_e (de_v (pv 0))) (dg_n (i := 2) sc_least_of.nd rfl (by first | exact .inl rfl | exact .inr rfl)) (ds_one (ds_if ((dw_or (dt_cmp op_isN (by first | exact nobehind _ (by decide) (by decide) | rfl) os_is (de_v (pv 1)) (de_non)) (dw_or1 (dt_cmp (opr_lt hu) (by first | exact nobehind _ (by decide) (by decide) | rfl) os_lt (de_ix (ixr hu) (fun _ _ => rfl) os_ix (de_v (pv 2)) (de_int)) (de_v (pv 1))))).pt) (ds_one (ds_set (i := 1) sc_least_of.nd rfl (by first | exact .inl rfl | exact .inr rfl) (de_ix (ixr hu) (fun _ _ => rfl) os_ix (de_v (pv 2)) (de_int)))) (ds_nil))))
      (ds_one (ds_ret (de_v (pv 1)))))
theorem ok_greatest_of (T : Txt K Wd.w mg) : FnOk P Wd.w K mg base CX0 1 T.greatest_of_a T.greatest_of_fd ["points"] (spD K 1 fn_greatest_of) := by
  refine fn_ok (k := 0) (N := ["points", "greatest", "point"]) T.greatest_of_F sc_greatest_of fun cdv A outer s H hr => ?_
  have hu := hr.units
  exact ds_cons (ds_set (i := 1) sc_greatest_of.nd rfl (by first | exact .inl rfl | exact .inr rfl) (de_non))
      (ds_cons (ds_for PassesOwn.never rfl (di_e (de_v (pv 0))) (dg_n (i := 2) sc_greatest_of.nd rfl (by first | exact .inl rfl | exact .inr rfl)) (ds_one (ds_if ((dw_or (dt_cmp op_isN (by first | exact nobehind _ (by decide) (by decide) | rfl) os_is (de_v (pv 1)) (de_non)) (dw_or1 (dt_cmp (opr_gt hu) (by first | exact nobehind _ (by decide) (by decide) | rfl) os_gt (de_ix (ixr hu) (fun _ _ => rfl) os_ix (de_v (pv 2)) (de_int)) (de_v (pv 1))))).pt) (ds_one (ds_set (i := 1) sc_greatest_of.nd rfl (by first | exact .inl rfl | exact .inr rfl) (de_ix (ixr hu) (fun _ _ => rfl) os_ix (de_v (pv 2)) (de_int)))) (ds_nil))))
      (ds_one (ds_ret (de_v (pv 1)))))
theorem ok_first_of (T : Txt K Wd.w mg) : FnOk P Wd.w K mg base CX0 2 T.first_of_a T.first_of_fd ["points"] (spD K 1 fn_first_of) := by
  refine fn_ok (k := 1) (N := ["points", "first", "point"]) T.first_of_F sc_first_of fun cdv A outer s H hr => ?_
  have hu := hr.units
  exact ds_cons (ds_set (i := 1) sc_first_of.nd rfl (by first | exact .inl rfl | exact .inr rfl) (de_non))
      (ds_cons (ds_for PassesOwn.never rfl (di_e (de_v (pv 0))) (dg_n (i := 2) sc_first_of.nd rfl (by first | exact .inl rfl | exact .inr rfl)) (ds_one (ds_if ((dw_or (dt_cmp op_isN (by first | exact nobehind _ (by decide) (by decide) | rfl) os_is (de_v (pv 1)) (de_non)) (dw_or1 (dt_cmp (opr_lt hu) (by first | exact nobehind _ (by decide) (by decide) | rfl) os_lt (de_call (ds0 := []) (ok_place_of T) (hr.mono (by decide)) (by rfl) T.place_of_m T.place_of_F.kp T.place_of_b .nil (fun _ => rfl) (da_cons (de_v (pv 2)) (da_nil))) (de_call (ds0 := []) (ok_place_of T) (hr.mono (by decide)) (by rfl) T.place_of_m T.place_of_F.kp T.place_of_b .nil (fun _ => rfl) (da_cons (de_v (pv 1)) (da_nil)))))).pt) (ds_one (ds_set (i := 1) sc_first_of.nd rfl (by first | exact .inl rfl | exact .inr rfl) (de_v (pv 2)))) (ds_nil))))
      (ds_one (ds_ret (de_if (dt_cmp op_isN (by first | exact nobehind _ (by decide) (by decide) | rfl) os_is (de_v (pv 1)) (de_non)) (de_non) (de_tup (da_cons (de_ix (ixr hu) (fun _ _ => rfl) os_ix (de_v (pv 1)) (de_int)) (da_cons (de_ix (ixr hu) (fun _ _ => rfl) os_ix (de_v (pv 1)) (de_int)) (da_nil))))))))
theorem ok_last_of (T : Txt K Wd.w mg) : FnOk P Wd.w K mg base CX0 2 T.last_of_a T.last_of_fd ["points"] (spD K 1 fn_last_of) := by
  refine fn_ok (k := 1) (N := ["points", "last", "point"]) T.last_of_F sc_last_of fun cdv A outer s H hr => ?_
  have hu := hr.units
  exact ds_cons (ds_set (i := 1) sc_last_of.nd rfl (by first | exact .inl rfl | exact .inr rfl) (de_non))
      (ds_cons (ds_for PassesOwn.never rfl (di_e (de_v (pv 0))) (dg_n (i := 2) sc_last_of.nd rfl (by first | exact .inl rfl | exact .inr rfl)) (ds_one (ds_if ((dw_or (dt_cmp op_isN (by first | exact nobehind _ (by decide) (by decide) | rfl) os_is (de_v (pv 1)) (de_non)) (dw_or1 (dt_cmp (opr_gt hu) (by first | exact nobehind _ (by decide) (by decide) | rfl) os_gt (de_call (ds0 := []) (ok_place_of T) (hr.mono (by decide)) (by rfl) T.place_of_m T.place_of_F.kp T.place_of_b .nil (fun _ => rfl) (da_cons (de_v (pv 2)) (da_nil))) (de_call (ds0 := []) (ok_place_of T) (hr.mono (by decide)) (by rfl) T.place_of_m T.place_of_F.kp T.place_of_b .nil (fun _ => rfl) (da_cons (de_v (pv 1)) (da_nil)))))).pt) (ds_one (ds_set (i := 1) sc_last_of.nd rfl (by first | exact .inl rfl | exact .inr rfl) (de_v (pv 2)))) (ds_nil))))
      (ds_one (ds_ret (de_if (dt_cmp op_isN (by first | exact nobehind _ (by decide) (by decide) | rfl) os_is (de_v (pv 1)) (de_non)) (de_non) (de_tup (da_cons (de_ix (ixr hu) (fun _ _ => rfl) os_ix (de_v (pv 1)) (de_int)) (da_cons (de_ix (ixr hu) (fun _ _ => rfl) os_ix (de_v (pv 1)) (de_int)) (da_nil))))))))
theorem ok_measured (T : Txt K Wd.w mg) : FnOk P Wd.w K mg base CX0 3 T.measured_a T.measured_fd ["points", "measure"] (spD K 2 fn_measured) := by
  refine fn_ok (k := 2) (N := ["points", "measure"]) T.measured_F sc_measured fun cdv A outer s H hr => ?_
  have hu := hr.units
  exact ds_cons (ds_if (dt_cmp (opr_eq hu) (by first | exact nobehind _ (by decide) (by decide) | rfl) os_eq (de_v (pv 1)) (de_c (v := .str "count") (d := .str "count") (pe_glob (by rfl) T.c_COUNT ⟨_, rfl⟩) fun _ => rfl)) (ds_one (ds_ret (de_call (ds0 := []) (ok_count_of T) (hr.mono (by decide)) (by rfl) T.count_of_m T.count_of_F.kp T.count_of_b .nil (fun _ => rfl) (da_cons (de_v (pv 0)) (da_nil))))) (ds_nil))
      (ds_cons (ds_if (dt_cmp (opr_eq hu) (by first | exact nobehind _ (by decide) (by decide) | rfl) os_eq (de_v (pv 1)) (de_c (v := .str "squares") (d := .str "squares") (pe_glob (by rfl) T.c_SQUARES ⟨_, rfl⟩) fun _ => rfl)) (ds_one (ds_ret (de_call (ds0 := []) (ok_squares_of T) (hr.mono (by decide)) (by rfl) T.squares_of_m T.squares_of_F.kp T.squares_of_b .nil (fun _ => rfl) (da_cons (de_v (pv 0)) (da_nil))))) (ds_nil))
      (ds_cons (ds_if (dt_cmp (opr_eq hu) (by first | exact nobehind _ (by decide) (by decide) | rfl) os_eq (de_v (pv 1)) (de_c (v := .str "least") (d := .str "least") (pe_glob (by rfl) T.c_LEAST ⟨_, rfl⟩) fun _ => rfl)) (ds_one (ds_ret (de_call (ds0 := []) (ok_least_of T) (hr.mono (by decide)) (by rfl) T.least_of_m T.least_of_F.kp T.least_of_b .nil (fun _ => rfl) (da_cons (de_v (pv 0)) (da_nil))))) (ds_nil))
      (ds_cons (ds_if (dt_cmp (opr_eq hu) (by first | exact nobehind _ (by decide) (by decide) | rfl) os_eq (de_v (pv 1)) (de_c (v := .str "greatest") (d := .str "greatest") (pe_glob (by rfl) T.c_GREATEST ⟨_, rfl⟩) fun _ => rfl)) (ds_one (ds_ret (de_call (ds0 := []) (ok_greatest_of T) (hr.mono (by decide)) (by rfl) T.greatest_of_m T.greatest_of_F.kp T.greatest_of_b .nil (fun _ => rfl) (da_cons (de_v (pv 0)) (da_nil))))) (ds_nil))
      (ds_cons (ds_if (dt_cmp (opr_eq hu) (by first | exact nobehind _ (by decide) (by decide) | rfl) os_eq (de_v (pv 1)) (de_c (v := .str "first") (d := .str "first") (pe_glob (by rfl) T.c_FIRST ⟨_, rfl⟩) fun _ => rfl)) (ds_one (ds_ret (de_call (ds0 := []) (ok_first_of T) (hr.mono (by decide)) (by rfl) T.first_of_m T.first_of_F.kp T.first_of_b .nil (fun _ => rfl) (da_cons (de_v (pv 0)) (da_nil))))) (ds_nil))
      (ds_cons (ds_if (dt_cmp (opr_eq hu) (by first | exact nobehind _ (by decide) (by decide) | rfl) os_eq (de_v (pv 1)) (de_c (v := .str "last") (d := .str "last") (pe_glob (by rfl) T.c_LAST ⟨_, rfl⟩) fun _ => rfl)) (ds_one (ds_ret (de_call (ds0 := []) (ok_last_of T) (hr.mono (by decide)) (by rfl) T.last_of_m T.last_of_F.kp T.last_of_b .nil (fun _ => rfl) (da_cons (de_v (pv 0)) (da_nil))))) (ds_nil))
      (ds_one (ds_ret (de_call (ds0 := []) (ok_sum_of T) (hr.mono (by decide)) (by rfl) T.sum_of_m T.sum_of_F.kp T.sum_of_b .nil (fun _ => rfl) (da_cons (de_v (pv 0)) (da_nil))))))))))
theorem ok_is_moment (T : Txt K Wd.w mg) : FnOk P Wd.w K mg base CX0 3 T.is_moment_a T.is_moment_fd ["value"] (spD K 1 fn_is_moment) := by
  refine fn_ok (k := 2) (N := ["value"]) T.is_moment_F sc_is_moment fun cdv A outer s H hr => ?_
  have hu := hr.units
  exact ds_one (ds_ret (de_call (ds0 := []) (ok_is_int_within T) (hr.mono (by decide)) (by rfl) T.is_int_within_m T.is_int_within_F.kp T.is_int_within_b .nil (fun _ => rfl) (da_cons (de_v (pv 0)) (da_cons (de_int) (da_cons (de_c (v := .int 100000) (d := .int 100000) (pe_glob (by rfl) T.c_MOST_MOMENT ⟨_, rfl⟩) fun _ => rfl) (da_nil))))))
theorem ok_is_grain (T : Txt K Wd.w mg) : FnOk P Wd.w K mg base CX0 3 T.is_grain_a T.is_grain_fd ["value"] (spD K 1 fn_is_grain) := by
  refine fn_ok (k := 2) (N := ["value"]) T.is_grain_F sc_is_grain fun cdv A outer s H hr => ?_
  have hu := hr.units
  exact ds_one (ds_ret (de_call (ds0 := []) (ok_is_int_within T) (hr.mono (by decide)) (by rfl) T.is_int_within_m T.is_int_within_F.kp T.is_int_within_b .nil (fun _ => rfl) (da_cons (de_v (pv 0)) (da_cons (de_int) (da_cons (de_c (v := .int 1000) (d := .int 1000) (pe_glob (by rfl) T.c_MOST_GRAIN ⟨_, rfl⟩) fun _ => rfl) (da_nil))))))
theorem ok_is_age (T : Txt K Wd.w mg) : FnOk P Wd.w K mg base CX0 3 T.is_age_a T.is_age_fd ["value"] (spD K 1 fn_is_age) := by
  refine fn_ok (k := 2) (N := ["value"]) T.is_age_F sc_is_age fun cdv A outer s H hr => ?_
  have hu := hr.units
  exact ds_one (ds_ret (de_or (de_cmp op_isN (by first | exact nobehind _ (by decide) (by decide) | rfl) os_is (de_v (pv 0)) (de_non)) (de_one (de_call (ds0 := []) (ok_is_int_within T) (hr.mono (by decide)) (by rfl) T.is_int_within_m T.is_int_within_F.kp T.is_int_within_b .nil (fun _ => rfl) (da_cons (de_v (pv 0)) (da_cons (de_int) (da_cons (de_c (v := .int 10000) (d := .int 10000) (pe_glob (by rfl) T.c_MOST_AGE ⟨_, rfl⟩) fun _ => rfl) (da_nil))))))))
theorem ok_is_row_of_measures (T : Txt K Wd.w mg) : FnOk P Wd.w K mg base CX0 2 T.is_row_of_measures_a T.is_row_of_measures_fd ["value"] (spD K 1 fn_is_row_of_measures) := by
  refine fn_ok (k := 1) (N := ["value", "ahead", "measure"]) T.is_row_of_measures_F sc_is_row_of_measures fun cdv A outer s H hr => ?_
  have hu := hr.units
  exact ds_cons (ds_if ((dw_or (dt_not (dt_tru (cs_isi hf_tuple rfl (by rfl) T.b_isinstance (de_v (pv 0)) (pe_bltn (by rfl) T.b_tuple (by decide +kernel) rfl)))) (dw_or1 (dt_not (dt_tru (de_v (pv 0)))))).pt) (ds_one (ds_ret (de_bl))) (ds_nil))
      (ds_cons (ds_set (i := 1) sc_is_row_of_measures.nd rfl (by first | exact .inl rfl | exact .inr rfl) (de_str))
      (ds_cons (ds_for PassesOwn.never rfl (di_e (de_v (pv 0))) (dg_n (i := 2) sc_is_row_of_measures.nd rfl (by first | exact .inl rfl | exact .inr rfl)) (ds_cons (ds_if ((dw_or (dt_not (dt_tru (de_call (ds0 := []) (ok_is_measure T) (hr.mono (by decide)) (by rfl) T.is_measure_m T.is_measure_F.kp T.is_measure_b .nil (fun _ => rfl) (da_cons (de_v (pv 2)) (da_nil))))) (dw_or1 (dt_cmp (opr_le hu) (by first | exact nobehind _ (by decide) (by decide) | rfl) os_le (de_v (pv 2)) (de_v (pv 1))))).pt) (ds_one (ds_ret (de_bl))) (ds_nil))
      (ds_one (ds_set (i := 1) sc_is_row_of_measures.nd rfl (by first | exact .inl rfl | exact .inr rfl) (de_v (pv 2))))))
      (ds_one (ds_ret (de_bl)))))
theorem ok_is_keep (T : Txt K Wd.w mg) : FnOk P Wd.w K mg base CX0 4 T.is_keep_a T.is_keep_fd ["value"] (spD K 1 fn_is_keep) := by
  refine fn_ok (k := 3) (N := ["value"]) T.is_keep_F sc_is_keep fun cdv A outer s H hr => ?_
  have hu := hr.units
  exact ds_cons (ds_if (dt_not (dt_tru (de_call (ds0 := []) (ok_is_tuple_of T) (hr.mono (by decide)) (by rfl) T.is_tuple_of_m T.is_tuple_of_F.kp T.is_tuple_of_b .nil (fun _ => rfl) (da_cons (de_v (pv 0)) (da_cons (de_int) (da_nil)))))) (ds_one (ds_ret (de_bl))) (ds_nil))
      (ds_one (ds_ret (de_and (de_call (ds0 := []) (ok_is_grain T) (hr.mono (by decide)) (by rfl) T.is_grain_m T.is_grain_F.kp T.is_grain_b .nil (fun _ => rfl) (da_cons (de_ix (ixr hu) (fun _ _ => rfl) os_ix (de_v (pv 0)) (de_int)) (da_nil))) (de_and (de_call (ds0 := []) (ok_is_row_of_measures T) (hr.mono (by decide)) (by rfl) T.is_row_of_measures_m T.is_row_of_measures_F.kp T.is_row_of_measures_b .nil (fun _ => rfl) (da_cons (de_ix (ixr hu) (fun _ _ => rfl) os_ix (de_v (pv 0)) (de_int)) (da_nil))) (de_one (de_call (ds0 := []) (ok_is_age T) (hr.mono (by decide)) (by rfl) T.is_age_m T.is_age_F.kp T.is_age_b .nil (fun _ => rfl) (da_cons (de_ix (ixr hu) (fun _ _ => rfl) os_ix (de_v (pv 0)) (de_int)) (da_nil))))))))
theorem ok_is_row_of_keeps (T : Txt K Wd.w mg) : FnOk P Wd.w K mg base CX0 5 T.is_row_of_keeps_a T.is_row_of_keeps_fd ["value"] (spD K 1 fn_is_row_of_keeps) := by
  refine fn_ok (k := 4) (N := ["value", "keep"]) T.is_row_of_keeps_F sc_is_row_of_keeps fun cdv A outer s H hr => ?_
  have hu := hr.units
  exact ds_cons (ds_if ((dw_or (dt_not (dt_tru (cs_isi hf_tuple rfl (by rfl) T.b_isinstance (de_v (pv 0)) (pe_bltn (by rfl) T.b_tuple (by decide +kernel) rfl)))) (dw_or1 (dt_cmp (opr_gt hu) (by first | exact nobehind _ (by decide) (by decide) | rfl) os_gt (de_c1 cr_len cs_len (by rfl) T.b_len PySem.boot_len (de_v (pv 0))) (de_c (v := .int 6) (d := .int 6) (pe_glob (by rfl) T.c_MOST_KEEPS ⟨_, rfl⟩) fun _ => rfl)))).pt) (ds_one (ds_ret (de_bl))) (ds_nil))
      (ds_cons (ds_for PassesOwn.never rfl (di_e (de_v (pv 0))) (dg_n (i := 1) sc_is_row_of_keeps.nd rfl (by first | exact .inl rfl | exact .inr rfl)) (ds_one (ds_if (dt_not (dt_tru (de_call (ds0 := []) (ok_is_keep T) (hr.mono (by decide)) (by rfl) T.is_keep_m T.is_keep_F.kp T.is_keep_b .nil (fun _ => rfl) (da_cons (de_v (pv 1)) (da_nil))))) (ds_one (ds_ret (de_bl))) (ds_nil))))
      (ds_one (ds_ret (de_bl))))
theorem ok_is_rule (T : Txt K Wd.w mg) : FnOk P Wd.w K mg base CX0 6 T.is_rule_a T.is_rule_fd ["value"] (spD K 1 fn_is_rule) := by
  refine fn_ok (k := 5) (N := ["value"]) T.is_rule_F sc_is_rule fun cdv A outer s H hr => ?_
  have hu := hr.units
  exact ds_cons (ds_if (dt_not (dt_tru (de_call (ds0 := []) (ok_is_tuple_of T) (hr.mono (by decide)) (by rfl) T.is_tuple_of_m T.is_tuple_of_F.kp T.is_tuple_of_b .nil (fun _ => rfl) (da_cons (de_v (pv 0)) (da_cons (de_int) (da_nil)))))) (ds_one (ds_ret (de_bl))) (ds_nil))
      (ds_one (ds_ret (de_and (de_call (ds0 := []) (ok_is_age T) (hr.mono (by decide)) (by rfl) T.is_age_m T.is_age_F.kp T.is_age_b .nil (fun _ => rfl) (da_cons (de_ix (ixr hu) (fun _ _ => rfl) os_ix (de_v (pv 0)) (de_int)) (da_nil))) (de_one (de_call (ds0 := []) (ok_is_row_of_keeps T) (hr.mono (by decide)) (by rfl) T.is_row_of_keeps_m T.is_row_of_keeps_F.kp T.is_row_of_keeps_b .nil (fun _ => rfl) (da_cons (de_ix (ixr hu) (fun _ _ => rfl) os_ix (de_v (pv 0)) (de_int)) (da_nil)))))))
theorem ok_check_rule (T : Txt K Wd.w mg) : FnOk P Wd.w K mg base CX0 7 T.check_rule_a T.check_rule_fd ["rule"] (spD K 1 fn_check_rule) := by
  refine fn_ok (k := 6) (N := ["rule"]) T.check_rule_F sc_check_rule fun cdv A outer s H hr => ?_
  have hu := hr.units
  exact ds_one (ds_if (dt_not (dt_tru (de_call (ds0 := []) (ok_is_rule T) (hr.mono (by decide)) (by rfl) T.is_rule_m T.is_rule_F.kp T.is_rule_b .nil (fun _ => rfl) (da_cons (de_v (pv 0)) (da_nil))))) (ds_one (ds_never)) (ds_nil))
theorem ok_check_moment (T : Txt K Wd.w mg) : FnOk P Wd.w K mg base CX0 4 T.check_moment_a T.check_moment_fd ["now"] (spD K 1 fn_check_moment) := by
  refine fn_ok (k := 3) (N := ["now"]) T.check_moment_F sc_check_moment fun cdv A outer s H hr => ?_
  have hu := hr.units
  exact ds_one (ds_if (dt_not (dt_tru (de_call (ds0 := []) (ok_is_moment T) (hr.mono (by decide)) (by rfl) T.is_moment_m T.is_moment_F.kp T.is_moment_b .nil (fun _ => rfl) (da_cons (de_v (pv 0)) (da_nil))))) (ds_one (ds_never)) (ds_nil))
theorem ok_first_time (T : Txt K Wd.w mg) : FnOk P Wd.w K mg base CX0 1 T.first_time_a T.first_time_fd ["rule", "now"] (spD K 2 fn_first_time) := by
  refine fn_ok (k := 0) (N := ["rule", "now", "raw"]) T.first_time_F sc_first_time fun cdv A outer s H hr => ?_
  have hu := hr.units
  exact ds_cons (ds_set (i := 2) sc_first_time.nd rfl (by first | exact .inl rfl | exact .inr rfl) (de_ix (ixr hu) (fun _ _ => rfl) os_ix (de_v (pv 0)) (de_int)))
      (ds_cons (ds_if (dt_cmp op_isN (by first | exact nobehind _ (by decide) (by decide) | rfl) os_is (de_v (pv 2)) (de_non)) (ds_one (ds_ret (de_int))) (ds_nil))
      (ds_one (ds_ret (de_cb (call_max2 rfl) cs_max2 (by rfl) T.b_max (by decide +kernel) (da_cons (de_int) (da_cons (de_op op_sub os_sub (de_op opr_add os_add (de_v (pv 1)) (de_int)) (de_v (pv 2))) (da_nil)))))))
theorem ok_first_cell (T : Txt K Wd.w mg) : FnOk P Wd.w K mg base CX0 1 T.first_cell_a T.first_cell_fd ["keep", "now"] (spD K 2 fn_first_cell) := by
  refine fn_ok (k := 0) (N := ["keep", "now", "grain", "_", "age"]) T.first_cell_F sc_first_cell fun cdv A outer s H hr => ?_
  have hu := hr.units
  exact ds_cons (ds_asg (de_v (pv 0)) (dg_t rfl (dgs_cons (dg_n (i := 2) sc_first_cell.nd rfl (by first | exact .inl rfl | exact .inr rfl)) (dgs_cons (dg_n (i := 3) sc_first_cell.nd rfl (by first | exact .inl rfl | exact .inr rfl)) (dgs_cons (dg_n (i := 4) sc_first_cell.nd rfl (by first | exact .inl rfl | exact .inr rfl)) (dgs_nil))))))
      (ds_cons (ds_if (dt_cmp op_isN (by first | exact nobehind _ (by decide) (by decide) | rfl) os_is (de_v (pv 4)) (de_non)) (ds_one (ds_ret (de_int))) (ds_nil))
      (ds_one (ds_ret (de_cb (call_max2 rfl) cs_max2 (by rfl) T.b_max (by decide +kernel) (da_cons (de_int) (da_cons (de_op opr_div os_div (de_op op_sub os_sub (de_v (pv 1)) (de_v (pv 4))) (de_v (pv 2))) (da_nil)))))))
theorem ok_last_cell (T : Txt K Wd.w mg) : FnOk P Wd.w K mg base CX0 1 T.last_cell_a T.last_cell_fd ["keep", "now"] (spD K 2 fn_last_cell) := by
  refine fn_ok (k := 0) (N := ["keep", "now"]) T.last_cell_F sc_last_cell fun cdv A outer s H hr => ?_
  have hu := hr.units
  exact ds_one (ds_ret (de_op opr_div os_div (de_v (pv 1)) (de_ix (ixr hu) (fun _ _ => rfl) os_ix (de_v (pv 0)) (de_int))))
theorem ok_cell_numbers (T : Txt K Wd.w mg) : FnOk P Wd.w K mg base CX0 2 T.cell_numbers_a T.cell_numbers_fd ["keep", "now"] (spD K 2 fn_cell_numbers) := by
  refine fn_ok (k := 1) (N := ["keep", "now"]) T.cell_numbers_F sc_cell_numbers fun cdv A outer s H hr => ?_
  have hu := hr.units
  exact ds_one (ds_ret (de_listR rfl (by rfl) T.b_list (by rfl) T.b_range (de_call (ds0 := []) (ok_first_cell T) (hr.mono (by decide)) (by rfl) T.first_cell_m T.first_cell_F.kp T.first_cell_b .nil (fun _ => rfl) (da_cons (de_v (pv 0)) (da_cons (de_v (pv 1)) (da_nil)))) (de_op opr_add os_add (de_call (ds0 := []) (ok_last_cell T) (hr.mono (by decide)) (by rfl) T.last_cell_m T.last_cell_F.kp T.last_cell_b .nil (fun _ => rfl) (da_cons (de_v (pv 0)) (da_cons (de_v (pv 1)) (da_nil)))) (de_int))))
theorem ok_cells (T : Txt K Wd.w mg) : FnOk P Wd.w K mg base CX0 8 T.cells_a T.cells_fd ["rule", "now"] (spD K 2 fn_cells) := by
  refine fn_ok (k := 7) (N := ["rule", "now", "found", "place", "keep", "k"]) T.cells_F sc_cells fun cdv A outer s H hr => ?_
  have hu := hr.units
  exact ds_cons (ds_expr (de_call (ds0 := []) (ok_check_rule T) (hr.mono (by decide)) (by rfl) T.check_rule_m T.check_rule_F.kp T.check_rule_b .nil (fun _ => rfl) (da_cons (de_v (pv 0)) (da_nil))))
      (ds_cons (ds_expr (de_call (ds0 := []) (ok_check_moment T) (hr.mono (by decide)) (by rfl) T.check_moment_m T.check_moment_F.kp T.check_moment_b .nil (fun _ => rfl) (da_cons (de_v (pv 1)) (da_nil))))
      (ds_cons (ds_set (i := 2) sc_cells.nd rfl (by first | exact .inl rfl | exact .inr rfl) (de_lst (da_nil)))
      (ds_cons (ds_for PassesOwn.never rfl (di_enumT (by rfl) T.b_enumerate (de_ix (ixr hu) (fun _ _ => rfl) os_ix (de_v (pv 0)) (de_int))) (dg_t rfl (dgs_cons (dg_n (i := 3) sc_cells.nd rfl (by first | exact .inl rfl | exact .inr rfl)) (dgs_cons (dg_n (i := 4) sc_cells.nd rfl (by first | exact .inl rfl | exact .inr rfl)) (dgs_nil)))) (ds_one (ds_for PassesOwn.never rfl (di_e (de_call (ds0 := []) (ok_cell_numbers T) (hr.mono (by decide)) (by rfl) T.cell_numbers_m T.cell_numbers_F.kp T.cell_numbers_b .nil (fun _ => rfl) (da_cons (de_v (pv 4)) (da_cons (de_v (pv 1)) (da_nil))))) (dg_n (i := 5) sc_cells.nd rfl (by first | exact .inl rfl | exact .inr rfl)) (ds_one (ds_app (i := 2) (pv 2) (de_tup (da_cons (de_v (pv 3)) (da_cons (de_v (pv 5)) (da_nil)))))))))
      (ds_one (ds_ret (de_c1t call_tuple_of cs_tuple (by rfl) T.b_tuple (by decide +kernel) (de_v (pv 2))))))))
theorem ok_points_left (T : Txt K Wd.w mg) : FnOk P Wd.w K mg base CX0 2 T.points_left_a T.points_left_fd ["rule", "now", "past"] (spD K 3 fn_points_left) := by
  refine fn_ok (k := 1) (N := ["rule", "now", "past", "start", "point"]) T.points_left_F sc_points_left fun cdv A outer s H hr => ?_
  have hu := hr.units
  exact ds_cons (ds_set (i := 3) sc_points_left.nd rfl (by first | exact .inl rfl | exact .inr rfl) (de_call (ds0 := []) (ok_first_time T) (hr.mono (by decide)) (by rfl) T.first_time_m T.first_time_F.kp T.first_time_b .nil (fun _ => rfl) (da_cons (de_v (pv 0)) (da_cons (de_v (pv 1)) (da_nil)))))
      (ds_one (ds_ret (de_c1t call_tuple_of cs_tuple (by rfl) T.b_tuple (by decide +kernel) (de_lc (own := [("point", 4)]) rfl sc_points_left.nd (di_e (de_v (pv 2))) (blkOk_by (own := [("point", 4)]) (N := ["rule", "now", "past", "start", "point"]) (sc := defScope s_points_left) (by decide +kernel)) keep_n (by decide) (fun _ _ _ _ _ => dg_n (i := 4) sc_points_left.nd rfl (by first | exact .inl rfl | exact .inr rfl)) (fun _ _ _ _ _ => dts_one (dt_chain (opr_le hu) (opr_le hu) os_le os_le (de_v (pv 3)) (de_ix (ixr hu) (fun _ _ => rfl) os_ix (de_v (pv 4)) (de_int)) (de_v (pv 1)))) (fun _ _ _ _ _ => de_v (pv 4))))))
theorem ok_points_by_cell (T : Txt K Wd.w mg) : FnOk P Wd.w K mg base CX0 1 T.points_by_cell_a T.points_by_cell_fd ["keep", "past"] (spD K 2 fn_points_by_cell) := by
  refine fn_ok (k := 0) (N := ["keep", "past", "rows", "point", "k"]) T.points_by_cell_F sc_points_by_cell fun cdv A outer s H hr => ?_
  have hu := hr.units
  exact ds_cons (ds_set (i := 2) sc_points_by_cell.nd rfl (by first | exact .inl rfl | exact .inr rfl) (de_dnew))
      (ds_cons (ds_for PassesOwn.never rfl (di_e (de_v (pv 1))) (dg_n (i := 3) sc_points_by_cell.nd rfl (by first | exact .inl rfl | exact .inr rfl)) (ds_one (ds_setd (i := 2) (pv 2) (de_op opr_div os_div (de_ix (ixr hu) (fun _ _ => rfl) os_ix (de_v (pv 3)) (de_int)) (de_ix (ixr hu) (fun _ _ => rfl) os_ix (de_v (pv 0)) (de_int))) (de_v (pv 3)) ⟨rfl, rfl, rfl, rfl⟩)))
      (ds_one (ds_ret (de_dcK (i := 2) (own := [("k", 4)]) rfl sc_points_by_cell.nd (pv 2) (blkOk_by (own := [("k", 4)]) (N := ["keep", "past", "rows", "point", "k"]) (sc := defScope s_points_by_cell) (by decide +kernel)) keep_n (by decide) (fun _ _ _ _ _ => dg_n (i := 4) sc_points_by_cell.nd rfl (by first | exact .inl rfl | exact .inr rfl)) (fun _ _ _ _ _ => dts_nil) (fun _ _ _ _ _ => de_v (pv 4)) (fun _ _ _ _ _ => de_tupM (by rfl) T.b_tuple (by decide +kernel) (de_ix (ixr hu) (fun _ _ => rfl) os_ix (de_v (pv 2)) (de_v (pv 4))))))))
theorem ok_facts_of_cell (T : Txt K Wd.w mg) : FnOk P Wd.w K mg base CX0 4 T.facts_of_cell_a T.facts_of_cell_fd ["place", "k", "keep", "points"] (spD K 4 fn_facts_of_cell) := by
  refine fn_ok (k := 3) (N := ["place", "k", "keep", "points", "measure"]) T.facts_of_cell_F sc_facts_of_cell fun cdv A outer s H hr => ?_
  have hu := hr.units
  exact ds_one (ds_ret (de_lc (own := [("measure", 4)]) rfl sc_facts_of_cell.nd (di_e (de_ix (ixr hu) (fun _ _ => rfl) os_ix (de_v (pv 2)) (de_int))) (blkOk_by (own := [("measure", 4)]) (N := ["place", "k", "keep", "points", "measure"]) (sc := defScope s_facts_of_cell) (by decide +kernel)) keep_n (by decide) (fun _ _ _ _ _ => dg_n (i := 4) sc_facts_of_cell.nd rfl (by first | exact .inl rfl | exact .inr rfl)) (fun _ _ _ _ _ => dts_nil) (fun _ _ _ _ _ => de_tup (da_cons (de_v (pv 0)) (da_cons (de_v (pv 1)) (da_cons (de_v (pv 4)) (da_cons (de_call (ds0 := []) (ok_measured T) (hr.mono (by decide)) (by rfl) T.measured_m T.measured_F.kp T.measured_b .nil (fun _ => rfl) (da_cons (de_v (pv 3)) (da_cons (de_v (pv 4)) (da_nil)))) (da_nil))))))))
theorem ok_facts_of_keep (T : Txt K Wd.w mg) : FnOk P Wd.w K mg base CX0 5 T.facts_of_keep_a T.facts_of_keep_fd ["place", "keep", "now", "past"] (spD K 4 fn_facts_of_keep) := by
  refine fn_ok (k := 4) (N := ["place", "keep", "now", "past", "held", "facts", "k"]) T.facts_of_keep_F sc_facts_of_keep fun cdv A outer s H hr => ?_
  have hu := hr.units
  exact ds_cons (ds_set (i := 4) sc_facts_of_keep.nd rfl (by first | exact .inl rfl | exact .inr rfl) (de_call (ds0 := []) (ok_points_by_cell T) (hr.mono (by decide)) (by rfl) T.points_by_cell_m T.points_by_cell_F.kp T.points_by_cell_b .nil (fun _ => rfl) (da_cons (de_v (pv 1)) (da_cons (de_v (pv 3)) (da_nil)))))
      (ds_cons (ds_set (i := 5) sc_facts_of_keep.nd rfl (by first | exact .inl rfl | exact .inr rfl) (de_lst (da_nil)))
      (ds_cons (ds_for PassesOwn.never rfl (di_e (de_call (ds0 := []) (ok_cell_numbers T) (hr.mono (by decide)) (by rfl) T.cell_numbers_m T.cell_numbers_F.kp T.cell_numbers_b .nil (fun _ => rfl) (da_cons (de_v (pv 1)) (da_cons (de_v (pv 2)) (da_nil))))) (dg_n (i := 6) sc_facts_of_keep.nd rfl (by first | exact .inl rfl | exact .inr rfl)) (ds_one (ds_ext (i := 5) (pv 5) (de_call (ds0 := []) (ok_facts_of_cell T) (hr.mono (by decide)) (by rfl) T.facts_of_cell_m T.facts_of_cell_F.kp T.facts_of_cell_b .nil (fun _ => rfl) (da_cons (de_v (pv 0)) (da_cons (de_v (pv 6)) (da_cons (de_v (pv 1)) (da_cons (de_get (hu1 hu) (de_v (pv 4)) (de_v (pv 6)) (de_tup (da_nil)) ⟨rfl, rfl, rfl, rfl⟩) (da_nil)))))))))
      (ds_one (ds_ret (de_v (pv 5))))))
theorem ok_left (T : Txt K Wd.w mg) : FnOk P Wd.w K mg base CX0 8 T.left_a T.left_fd ["rule", "now", "past"] (spD K 3 fn_left) := by
  refine fn_ok (k := 7) (N := ["rule", "now", "past", "facts", "place", "keep"]) T.left_F sc_left fun cdv A outer s H hr => ?_
  have hu := hr.units
  exact ds_cons (ds_expr (de_call (ds0 := []) (ok_check_rule T) (hr.mono (by decide)) (by rfl) T.check_rule_m T.check_rule_F.kp T.check_rule_b .nil (fun _ => rfl) (da_cons (de_v (pv 0)) (da_nil))))
      (ds_cons (ds_expr (de_call (ds0 := []) (ok_check_moment T) (hr.mono (by decide)) (by rfl) T.check_moment_m T.check_moment_F.kp T.check_moment_b .nil (fun _ => rfl) (da_cons (de_v (pv 1)) (da_nil))))
      (ds_cons (ds_expr (de_call (ds0 := []) (ok_check_past_up_to T) (hr.mono (by decide)) (by rfl) T.check_past_up_to_m T.check_past_up_to_F.kp T.check_past_up_to_b .nil (fun _ => rfl) (da_cons (de_v (pv 2)) (da_cons (de_v (pv 1)) (da_nil)))))
      (ds_cons (ds_set (i := 3) sc_left.nd rfl (by first | exact .inl rfl | exact .inr rfl) (de_lst (da_nil)))
      (ds_cons (ds_for PassesOwn.never rfl (di_enumT (by rfl) T.b_enumerate (de_ix (ixr hu) (fun _ _ => rfl) os_ix (de_v (pv 0)) (de_int))) (dg_t rfl (dgs_cons (dg_n (i := 4) sc_left.nd rfl (by first | exact .inl rfl | exact .inr rfl)) (dgs_cons (dg_n (i := 5) sc_left.nd rfl (by first | exact .inl rfl | exact .inr rfl)) (dgs_nil)))) (ds_one (ds_ext (i := 3) (pv 3) (de_call (ds0 := []) (ok_facts_of_keep T) (hr.mono (by decide)) (by rfl) T.facts_of_keep_m T.facts_of_keep_F.kp T.facts_of_keep_b .nil (fun _ => rfl) (da_cons (de_v (pv 4)) (da_cons (de_v (pv 5)) (da_cons (de_v (pv 1)) (da_cons (de_v (pv 2)) (da_nil)))))))))
      (ds_one (ds_ret (de_tup (da_cons (de_call (ds0 := []) (ok_points_left T) (hr.mono (by decide)) (by rfl) T.points_left_m T.points_left_F.kp T.points_left_b .nil (fun _ => rfl) (da_cons (de_v (pv 0)) (da_cons (de_v (pv 1)) (da_cons (de_v (pv 2)) (da_nil))))) (da_cons (de_c1t call_tuple_of cs_tuple (by rfl) T.b_tuple (by decide +kernel) (de_v (pv 3))) (da_nil))))))))))
theorem ok0_p_law_deck (T : Txt K Wd.w mg) : FnOk P Wd.w K mg base CX0 1 T.p_law_deck_a T.p_law_deck_fd ["script", "salt"] (spD K 2 fn0_p_law_deck) := by
  refine fn_ok (k := 0) (N := ["script", "salt", "seed", "cell"]) T.p_law_deck_F sc_p_law_deck fun cdv A outer s H hr => ?_
  have hu := hr.units
  exact ds_cons (ds_set (i := 2) sc_p_law_deck.nd rfl (by first | exact .inl rfl | exact .inr rfl) (de_v (pv 1)))
      (ds_cons (ds_for PassesOwn.never rfl (di_e (de_sl (de_v (pv 0)) (dp_none) (dp_some (de_int)))) (dg_n (i := 3) sc_p_law_deck.nd rfl (by first | exact .inl rfl | exact .inr rfl)) (ds_one (ds_set (i := 2) sc_p_law_deck.nd rfl (by first | exact .inl rfl | exact .inr rfl) (de_op op_mod os_I (de_c1t call_int1 cs_int (by rfl) T.b_int (by decide +kernel) (de_op opr_add os_add (de_op opr_add os_add (de_op opr_mul os_mul (de_v (pv 2)) (de_int)) (de_op op_mod os_I (de_c1t call_int1 cs_int (by rfl) T.b_int (by decide +kernel) (de_v (pv 3))) (de_int))) (de_int))) (de_int)))))
      (ds_one (ds_ret (de_disp (dsp_s (de_lc (own := [("cell", 3)]) rfl sc_p_law_deck.nd (di_e (de_sl (de_v (pv 0)) (dp_none) (dp_some (de_int)))) (blkOk_by (own := [("cell", 3)]) (N := ["script", "salt", "seed", "cell"]) (sc := defScope s_p_law_deck) (by decide +kernel)) keep_n (by decide) (fun _ _ _ _ _ => dg_n (i := 3) sc_p_law_deck.nd rfl (by first | exact .inl rfl | exact .inr rfl)) (fun _ _ _ _ _ => dts_nil) (fun _ _ _ _ _ => de_c1t call_int1 cs_int (by rfl) T.b_int (by decide +kernel) (de_v (pv 3)))) (dsp_s (de_int) (dsp_s (de_int) (dsp_s (de_v (pv 2)) (dsp_nil))))) (by decide +kernel) (by decide) rfl rfl (by simp) (by decide)))))
theorem ok_p_law_deck (T : Txt K Wd.w mg) : FnOk P Wd.w K mg base CX0 1 T.p_law_deck_a T.p_law_deck_fd ["script", "salt"] (spD K 2 fn_p_law_deck) := deckmk_view (n := 1) (ok0_p_law_deck T) deck_h0
theorem ok_p_law_draw (T : Txt K Wd.w mg) : FnOk P Wd.w K mg base CX0 1 T.p_law_draw_a T.p_law_draw_fd ["deck", "many"] (spD K 2 fn_p_law_draw) := by
  refine deck_view rfl (T.p_law_draw_F.ok (k := 0) (N := ["deck", "many", "cell", "digit", "mixed"]) sc_p_law_draw (fun vs H Q E h => ?_) fun cdv A outer s H vs Q E hr hsp => ⟨tDeckT K, ?_, deck_reads hsp _ rfl⟩)
  · obtain ⟨a, c, ns, m, p, g, x, rfl, _⟩ := h
    rfl
  · have hN := sc_p_law_draw.nd
    have hu := hr.units
    have D : ∀ {X : Cx} {e i : Expr} {te ti : TE} {p : Pos}, X.A.units + 64 < cLine → PlainIx i → PE X e te → PE X i ti → PE X (.Subscript e i p) (tOp (rIxA X.K) te ti) := fun hu hp a b => pe_ix (ixr hu) a b hp
    refine pss_cons (ps_if (pw_and (pt_cmpR op_lt (D hu (fun _ _ => rfl) (pv 0) pe_str) pe_int (by first | exact nobehind _ (by decide) (by decide) | rfl)) (pw_and1 (pt_cmpR op_lt (D hu (fun _ _ => rfl) (pv 0) pe_str) (pe_callB cr_len (by rfl) T.b_len PySem.boot_len (pa_cons (D hu (fun _ _ => rfl) (pv 0) pe_str) pa_nil rfl)) (by first | exact nobehind _ (by decide) (by decide) | rfl)))).pt ?A pss_nil) (pss_cons (ps_if (pt_cmpR op_gt (D hu (fun _ _ => rfl) (pv 0) pe_str) pe_int (by first | exact nobehind _ (by decide) (by decide) | rfl)) ?B pss_nil) ?C)
    case A => exact pss_cons (ps_set (i := 2) hN rfl (by first | exact .inl rfl | exact .inr rfl) (pe_ix ix_seq (D hu (fun _ _ => rfl) (pv 0) pe_str) (D hu (fun _ _ => rfl) (pv 0) pe_str) (fun _ _ => rfl))) (pss_cons (ps_asg (pe_op op_add (D hu (fun _ _ => rfl) (pv 0) pe_str) pe_int) (pg_sub (pv 0) pe_str (set_dict (hu1 hu))))
      (pss_cons (ps_asg (pe_op op_mod (pe_callTy call_int1 (by rfl) T.b_int (by decide +kernel) (pa_cons (pe_op op_add (pe_op op_mul (D hu (fun _ _ => rfl) (pv 0) pe_str) pe_int) (pe_op op_mod (pe_callTy call_int1 (by rfl) T.b_int (by decide +kernel) (pa_cons (pv 2) pa_nil rfl)) pe_int)) pa_nil rfl)) pe_int) (pg_sub (pv 0) pe_str (set_dict (hu1 hu))))
      (pss_one (ps_if (pt_cmpR op_ge (pv 2) (pe_op op_pow pe_int pe_int) (by first | exact nobehind _ (by decide) (by decide) | rfl)) (pss_one (ps_asg (pe_op op_mod (pe_callTy call_int1 (by rfl) T.b_int (by decide +kernel) (pa_cons (pv 2) pa_nil rfl)) (pe_op opr_mul (pe_op op_pow pe_int pe_int) (pe_op op_pow pe_int pe_int))) (pg_sub (pv 0) pe_str (set_dict (hu1 hu))))) pss_nil))))
    case B => exact pss_cons (ps_set (i := 3) hN rfl (by first | exact .inl rfl | exact .inr rfl) (pe_op op_mod (pe_callTy call_int1 (by rfl) T.b_int (by decide +kernel) (pa_cons (D hu (fun _ _ => rfl) (pv 0) pe_str) pa_nil rfl)) (pv 1))) (pss_cons (ps_asg (pe_op op_fdiv (D hu (fun _ _ => rfl) (pv 0) pe_str) (pv 1)) (pg_sub (pv 0) pe_str (set_dict (hu1 hu)))) (pss_one (ps_ret (pv 3))))
    case C => exact pss_cons (ps_asg (pe_op op_mod (pe_callTy call_int1 (by rfl) T.b_int (by decide +kernel) (pa_cons (pe_op op_add (pe_op op_mul (D hu (fun _ _ => rfl) (pv 0) pe_str) pe_int) pe_int) pa_nil rfl)) pe_int) (pg_sub (pv 0) pe_str (set_dict (hu1 hu)))) (pss_cons (ps_set (i := 4) hN rfl (by first | exact .inl rfl | exact .inr rfl) (pe_op op_mod (pe_callTy call_int1 (by rfl) T.b_int (by decide +kernel) (pa_cons (pe_op op_mul (D hu (fun _ _ => rfl) (pv 0) pe_str) (D hu (fun _ _ => rfl) (pv 0) pe_str)) pa_nil rfl)) pe_int)) (pss_one (ps_ret (pe_op op_mod (pe_callTy call_int1 (by rfl) T.b_int (by decide +kernel) (pa_cons (pe_op op_fdiv (pv 4) pe_int) pa_nil rfl)) (pv 1)))))
theorem ok_p_law_pick (T : Txt K Wd.w mg) : FnOk P Wd.w K mg base CX0 2 T.p_law_pick_a T.p_law_pick_fd ["deck", "row"] (spD K 2 fn_p_law_pick) := by
  refine fn_ok (k := 1) (N := ["deck", "row"]) T.p_law_pick_F sc_p_law_pick fun cdv A outer s H hr => ?_
  have hu := hr.units
  exact ds_one (ds_ret (de_ix (ixr hu) (fun _ _ => rfl) os_ix (de_v (pv 1)) (de_call (ds0 := []) (ok_p_law_draw T) (hr.mono (by decide)) (by rfl) T.p_law_draw_m T.p_law_draw_F.kp T.p_law_draw_b .nil (fun _ => rfl) (da_cons (de_v (pv 0)) (da_cons (de_c1 cr_len cs_len (by rfl) T.b_len PySem.boot_len (de_v (pv 1))) (da_nil))))))
theorem ok_p_law_names (T : Txt K Wd.w mg) : FnOk P Wd.w K mg base CX0 1 T.p_law_names_a T.p_law_names_fd [] (spD K 0 fn_p_law_names) := by
  refine fn_ok (k := 0) (N := []) T.p_law_names_F sc_p_law_names fun cdv A outer s H hr => ?_
  have hu := hr.units
  exact ds_one (ds_ret (de_tup (da_cons (de_str) (da_cons (de_str) (da_cons (de_str) (da_cons (de_str) (da_cons (de_str) (da_cons (de_str) (da_cons (de_str) (da_nil))))))))))
theorem ok_p_law_measures (T : Txt K Wd.w mg) : FnOk P Wd.w K mg base CX0 3 T.p_law_measures_a T.p_law_measures_fd ["deck"] (spD K 1 fn_p_law_measures) := by
  refine fn_ok (k := 2) (N := ["deck", "shape", "bits", "k"]) T.p_law_measures_F sc_p_law_measures fun cdv A outer s H hr => ?_
  have hu := hr.units
  exact ds_cons (ds_set (i := 1) sc_p_law_measures.nd rfl (by first | exact .inl rfl | exact .inr rfl) (de_call (ds0 := []) (ok_p_law_draw T) (hr.mono (by decide)) (by rfl) T.p_law_draw_m T.p_law_draw_F.kp T.p_law_draw_b .nil (fun _ => rfl) (da_cons (de_v (pv 0)) (da_cons (de_int) (da_nil)))))
      (ds_cons (ds_if (dt_cmp (opr_lt hu) (by first | exact nobehind _ (by decide) (by decide) | rfl) os_lt (de_v (pv 1)) (de_int)) (ds_one (ds_ret (de_call0 (ds0 := []) (ok_p_law_names T) (hr.mono (by decide)) (by rfl) T.p_law_names_m T.p_law_names_F.kp T.p_law_names_b .nil (fun _ => rfl)))) (ds_nil))
      (ds_cons (ds_if (dt_cmp (opr_eq hu) (by first | exact nobehind _ (by decide) (by decide) | rfl) os_eq (de_v (pv 1)) (de_int)) (ds_one (ds_ret (de_tup (da_cons (de_call (ds0 := []) (ok_p_law_pick T) (hr.mono (by decide)) (by rfl) T.p_law_pick_m T.p_law_pick_F.kp T.p_law_pick_b .nil (fun _ => rfl) (da_cons (de_v (pv 0)) (da_cons (de_call0 (ds0 := []) (ok_p_law_names T) (hr.mono (by decide)) (by rfl) T.p_law_names_m T.p_law_names_F.kp T.p_law_names_b .nil (fun _ => rfl)) (da_nil)))) (da_nil))))) (ds_nil))
      (ds_cons (ds_set (i := 2) sc_p_law_measures.nd rfl (by first | exact .inl rfl | exact .inr rfl) (de_op opr_add os_add (de_int) (de_call (ds0 := []) (ok_p_law_draw T) (hr.mono (by decide)) (by rfl) T.p_law_draw_m T.p_law_draw_F.kp T.p_law_draw_b .nil (fun _ => rfl) (da_cons (de_v (pv 0)) (da_cons (de_int) (da_nil))))))
      (ds_one (ds_ret (de_c1t call_tuple_of cs_tuple (by rfl) T.b_tuple (by decide +kernel) (de_lc (own := [("k", 3)]) rfl sc_p_law_measures.nd (di_r1 (by rfl) T.b_range (da_cons (de_int) (da_nil))) (blkOk_by (own := [("k", 3)]) (N := ["deck", "shape", "bits", "k"]) (sc := defScope s_p_law_measures) (by decide +kernel)) keep_n (by decide) (fun _ _ _ _ _ => dg_n (i := 3) sc_p_law_measures.nd rfl (by first | exact .inl rfl | exact .inr rfl)) (fun _ _ _ _ _ => dts_one (dt_cmp (opr_eq hu) (by first | exact nobehind _ (by decide) (by decide) | rfl) os_eq (de_op op_mod os_I (de_c1t call_int1 cs_int (by rfl) T.b_int (by decide +kernel) (de_op opr_div os_div (de_v (pv 2)) (de_ix (ixr hu) (fun _ _ => rfl) os_ix (de_tup (da_cons (de_int) (da_cons (de_int) (da_cons (de_int) (da_cons (de_int) (da_cons (de_int) (da_cons (de_int) (da_cons (de_int) (da_nil))))))))) (de_v (pv 3))))) (de_int)) (de_int))) (fun _ _ _ _ _ => de_ix (ixr hu) (fun _ _ => rfl) os_ix (de_call0 (ds0 := []) (ok_p_law_names T) (hr.mono (by decide)) (by rfl) T.p_law_names_m T.p_law_names_F.kp T.p_law_names_b .nil (fun _ => rfl)) (de_v (pv 3))))))))))
theorem ok_p_law_int (T : Txt K Wd.w mg) : FnOk P Wd.w K mg base CX0 1 T.p_law_int_a T.p_law_int_fd ["got"] (spD K 1 fn_p_law_int) := by
  refine fn_ok (k := 0) (N := ["got"]) T.p_law_int_F sc_p_law_int fun cdv A outer s H hr => ?_
  have hu := hr.units
  exact ds_one (ds_ret (de_and (cs_isi hf_int rfl (by rfl) T.b_isinstance (de_v (pv 0)) (pe_bltn (by rfl) T.b_int (by decide +kernel) rfl)) (de_one (de_not (cs_isi hf_bool rfl (by rfl) T.b_isinstance (de_v (pv 0)) (pe_bltn (by rfl) T.b_bool (by decide +kernel) rfl))))))
theorem ok_p_law_same (T : Txt K Wd.w mg) : ∀ n, FnOk P Wd.w K mg base CX0 (2 + n) T.p_law_same_a T.p_law_same_fd ["got", "due"] (spD K 2 (fn_p_law_same n))
  | 0 => fn_false
  | n + 1 => by
    have ih := ok_p_law_same T n
    refine fn_ok (k := 2 + n) (N := ["got", "due", "k"]) T.p_law_same_F sc_p_law_same fun cdv A outer s H hr => ?_
    have hu := hr.units
    exact ds_cons (ds_if (dt_tru (cs_isi hf_tuple rfl (by rfl) T.b_isinstance (de_v (pv 1)) (pe_bltn (by rfl) T.b_tuple (by decide +kernel) rfl))) (ds_cons (ds_if ((dw_or (dt_not (dt_tru (cs_isi hf_tuple rfl (by rfl) T.b_isinstance (de_v (pv 0)) (pe_bltn (by rfl) T.b_tuple (by decide +kernel) rfl)))) (dw_or1 (dt_cmp (opr_ne hu) (by first | exact nobehind _ (by decide) (by decide) | rfl) os_ne (de_c1 cr_len cs_len (by rfl) T.b_len PySem.boot_len (de_v (pv 0))) (de_c1 cr_len cs_len (by rfl) T.b_len PySem.boot_len (de_v (pv 1)))))).pt) (ds_one (ds_ret (de_bl))) (ds_nil))
      (ds_one (ds_ret (de_c1 (cr_all rfl) cs_all (by rfl) T.b_all (by decide +kernel) (de_lc (own := [("k", 2)]) rfl sc_p_law_same.nd (di_r1 (by rfl) T.b_range (da_cons (de_c1 cr_len cs_len (by rfl) T.b_len PySem.boot_len (de_v (pv 1))) (da_nil))) (blkOk_by (own := [("k", 2)]) (N := ["got", "due", "k"]) (sc := defScope s_p_law_same) (by decide +kernel)) keep_n (by decide) (fun _ _ _ _ _ => dg_n (i := 2) sc_p_law_same.nd rfl (by first | exact .inl rfl | exact .inr rfl)) (fun _ _ _ _ _ => dts_nil) (fun _ _ _ _ _ => de_call (ds0 := []) (ih) (hr.mono (by omega)) (by rfl) T.p_law_same_m T.p_law_same_F.kp T.p_law_same_b .nil (fun _ => rfl) (da_cons (de_ix (ixr hu) (fun _ _ => rfl) os_ix (de_v (pv 0)) (de_v (pv 2))) (da_cons (de_ix (ixr hu) (fun _ _ => rfl) os_ix (de_v (pv 1)) (de_v (pv 2))) (da_nil))))))))) (ds_nil))
      (ds_cons (ds_if (dt_cmp op_isN (by first | exact nobehind _ (by decide) (by decide) | rfl) os_is (de_v (pv 1)) (de_non)) (ds_one (ds_ret (de_cmp op_isN (by first | exact nobehind _ (by decide) (by decide) | rfl) os_is (de_v (pv 0)) (de_non)))) (ds_nil))
      (ds_cons (ds_if (dt_tru (cs_isi hf_bool rfl (by rfl) T.b_isinstance (de_v (pv 1)) (pe_bltn (by rfl) T.b_bool (by decide +kernel) rfl))) (ds_one (ds_ret (de_and (cs_isi hf_bool rfl (by rfl) T.b_isinstance (de_v (pv 0)) (pe_bltn (by rfl) T.b_bool (by decide +kernel) rfl)) (de_one (de_cmp (opr_eq hu) (by first | exact nobehind _ (by decide) (by decide) | rfl) os_eq (de_v (pv 0)) (de_v (pv 1))))))) (ds_nil))
      (ds_cons (ds_if (dt_tru (cs_isi hf_int rfl (by rfl) T.b_isinstance (de_v (pv 1)) (pe_bltn (by rfl) T.b_int (by decide +kernel) rfl))) (ds_one (ds_ret (de_and (de_call (ds0 := []) (ok_p_law_int T) (hr.mono (by omega)) (by rfl) T.p_law_int_m T.p_law_int_F.kp T.p_law_int_b .nil (fun _ => rfl) (da_cons (de_v (pv 0)) (da_nil))) (de_one (de_cmp (opr_eq hu) (by first | exact nobehind _ (by decide) (by decide) | rfl) os_eq (de_v (pv 0)) (de_v (pv 1))))))) (ds_nil))
      (ds_one (ds_ret (de_and (cs_isi hf_str rfl (by rfl) T.b_isinstance (de_v (pv 0)) (pe_bltn (by rfl) T.b_str (by decide +kernel) rfl)) (de_one (de_cmp (opr_eq hu) (by first | exact nobehind _ (by decide) (by decide) | rfl) os_eq (de_v (pv 0)) (de_v (pv 1))))))))))
theorem ok_p_law_rule (T : Txt K Wd.w mg) : FnOk P Wd.w K mg base CX0 4 T.p_law_rule_a T.p_law_rule_fd ["deck", "now"] (spD K 2 fn_p_law_rule) := by
  refine fn_ok (k := 3) (N := ["deck", "now", "keeps", "k", "grain", "age", "raw"]) T.p_law_rule_F sc_p_law_rule fun cdv A outer s H hr => ?_
  have hu := hr.units
  exact ds_cons (ds_set (i := 2) sc_p_law_rule.nd rfl (by first | exact .inl rfl | exact .inr rfl) (de_lst (da_nil)))
      (ds_cons (ds_for PassesOwn.never rfl (di_r1 (by rfl) T.b_range (da_cons (de_call (ds0 := []) (ok_p_law_draw T) (hr.mono (by decide)) (by rfl) T.p_law_draw_m T.p_law_draw_F.kp T.p_law_draw_b .nil (fun _ => rfl) (da_cons (de_v (pv 0)) (da_cons (de_int) (da_nil)))) (da_nil))) (dg_n (i := 3) sc_p_law_rule.nd rfl (by first | exact .inl rfl | exact .inr rfl)) (ds_cons (ds_set (i := 4) sc_p_law_rule.nd rfl (by first | exact .inl rfl | exact .inr rfl) (de_op opr_add os_add (de_int) (de_call (ds0 := []) (ok_p_law_draw T) (hr.mono (by decide)) (by rfl) T.p_law_draw_m T.p_law_draw_F.kp T.p_law_draw_b .nil (fun _ => rfl) (da_cons (de_v (pv 0)) (da_cons (de_int) (da_nil))))))
      (ds_cons (ds_set (i := 5) sc_p_law_rule.nd rfl (by first | exact .inl rfl | exact .inr rfl) (de_call (ds0 := []) (ok_p_law_pick T) (hr.mono (by decide)) (by rfl) T.p_law_pick_m T.p_law_pick_F.kp T.p_law_pick_b .nil (fun _ => rfl) (da_cons (de_v (pv 0)) (da_cons (de_tup (da_cons (de_non) (da_cons (de_call (ds0 := []) (ok_p_law_draw T) (hr.mono (by decide)) (by rfl) T.p_law_draw_m T.p_law_draw_F.kp T.p_law_draw_b .nil (fun _ => rfl) (da_cons (de_v (pv 0)) (da_cons (de_int) (da_nil)))) (da_cons (de_call (ds0 := []) (ok_p_law_draw T) (hr.mono (by decide)) (by rfl) T.p_law_draw_m T.p_law_draw_F.kp T.p_law_draw_b .nil (fun _ => rfl) (da_cons (de_v (pv 0)) (da_cons (de_int) (da_nil)))) (da_cons (de_call (ds0 := []) (ok_p_law_draw T) (hr.mono (by decide)) (by rfl) T.p_law_draw_m T.p_law_draw_F.kp T.p_law_draw_b .nil (fun _ => rfl) (da_cons (de_v (pv 0)) (da_cons (de_int) (da_nil)))) (da_nil)))))) (da_nil)))))
      (ds_cons (ds_if (dt_cmp (opr_gt hu) (by first | exact nobehind _ (by decide) (by decide) | rfl) os_gt (de_v (pv 1)) (de_int)) (ds_cons (ds_set (i := 4) sc_p_law_rule.nd rfl (by first | exact .inl rfl | exact .inr rfl) (de_call (ds0 := []) (ok_p_law_pick T) (hr.mono (by decide)) (by rfl) T.p_law_pick_m T.p_law_pick_F.kp T.p_law_pick_b .nil (fun _ => rfl) (da_cons (de_v (pv 0)) (da_cons (de_tup (da_cons (de_op opr_add os_add (de_int) (de_call (ds0 := []) (ok_p_law_draw T) (hr.mono (by decide)) (by rfl) T.p_law_draw_m T.p_law_draw_F.kp T.p_law_draw_b .nil (fun _ => rfl) (da_cons (de_v (pv 0)) (da_cons (de_int) (da_nil))))) (da_cons (de_op opr_add os_add (de_int) (de_call (ds0 := []) (ok_p_law_draw T) (hr.mono (by decide)) (by rfl) T.p_law_draw_m T.p_law_draw_F.kp T.p_law_draw_b .nil (fun _ => rfl) (da_cons (de_v (pv 0)) (da_cons (de_int) (da_nil))))) (da_cons (de_op opr_add os_add (de_int) (de_call (ds0 := []) (ok_p_law_draw T) (hr.mono (by decide)) (by rfl) T.p_law_draw_m T.p_law_draw_F.kp T.p_law_draw_b .nil (fun _ => rfl) (da_cons (de_v (pv 0)) (da_cons (de_int) (da_nil))))) (da_cons (de_int) (da_nil)))))) (da_nil)))))
      (ds_cons (ds_set (i := 5) sc_p_law_rule.nd rfl (by first | exact .inl rfl | exact .inr rfl) (de_cb (call_min2 rfl) cs_min2 (by rfl) T.b_min (by decide +kernel) (da_cons (de_int) (da_cons (de_op opr_add os_add (de_op opr_mul os_mul (de_v (pv 4)) (de_call (ds0 := []) (ok_p_law_draw T) (hr.mono (by decide)) (by rfl) T.p_law_draw_m T.p_law_draw_F.kp T.p_law_draw_b .nil (fun _ => rfl) (da_cons (de_v (pv 0)) (da_cons (de_int) (da_nil))))) (de_call (ds0 := []) (ok_p_law_draw T) (hr.mono (by decide)) (by rfl) T.p_law_draw_m T.p_law_draw_F.kp T.p_law_draw_b .nil (fun _ => rfl) (da_cons (de_v (pv 0)) (da_cons (de_v (pv 4)) (da_nil))))) (da_nil)))))
      (ds_one (ds_if ((dw_and (dt_cmp (opr_eq hu) (by first | exact nobehind _ (by decide) (by decide) | rfl) os_eq (de_call (ds0 := []) (ok_p_law_draw T) (hr.mono (by decide)) (by rfl) T.p_law_draw_m T.p_law_draw_F.kp T.p_law_draw_b .nil (fun _ => rfl) (da_cons (de_v (pv 0)) (da_cons (de_int) (da_nil)))) (de_int)) (dw_and1 (dt_cmp (opr_le hu) (by first | exact nobehind _ (by decide) (by decide) | rfl) os_le (de_op opr_div os_div (de_v (pv 1)) (de_v (pv 4))) (de_int)))).pt) (ds_one (ds_set (i := 5) sc_p_law_rule.nd rfl (by first | exact .inl rfl | exact .inr rfl) (de_non))) (ds_nil))))) (ds_nil))
      (ds_one (ds_app (i := 2) (pv 2) (de_tup (da_cons (de_v (pv 4)) (da_cons (de_call (ds0 := []) (ok_p_law_measures T) (hr.mono (by decide)) (by rfl) T.p_law_measures_m T.p_law_measures_F.kp T.p_law_measures_b .nil (fun _ => rfl) (da_cons (de_v (pv 0)) (da_nil))) (da_cons (de_v (pv 5)) (da_nil)))))))))))
      (ds_cons (ds_set (i := 6) sc_p_law_rule.nd rfl (by first | exact .inl rfl | exact .inr rfl) (de_call (ds0 := []) (ok_p_law_pick T) (hr.mono (by decide)) (by rfl) T.p_law_pick_m T.p_law_pick_F.kp T.p_law_pick_b .nil (fun _ => rfl) (da_cons (de_v (pv 0)) (da_cons (de_tup (da_cons (de_int) (da_cons (de_call (ds0 := []) (ok_p_law_draw T) (hr.mono (by decide)) (by rfl) T.p_law_draw_m T.p_law_draw_F.kp T.p_law_draw_b .nil (fun _ => rfl) (da_cons (de_v (pv 0)) (da_cons (de_int) (da_nil)))) (da_cons (de_call (ds0 := []) (ok_p_law_draw T) (hr.mono (by decide)) (by rfl) T.p_law_draw_m T.p_law_draw_F.kp T.p_law_draw_b .nil (fun _ => rfl) (da_cons (de_v (pv 0)) (da_cons (de_int) (da_nil)))) (da_cons (de_call (ds0 := []) (ok_p_law_draw T) (hr.mono (by decide)) (by rfl) T.p_law_draw_m T.p_law_draw_F.kp T.p_law_draw_b .nil (fun _ => rfl) (da_cons (de_v (pv 0)) (da_cons (de_int) (da_nil)))) (da_cons (de_non) (da_nil))))))) (da_nil)))))
      (ds_one (ds_ret (de_tup (da_cons (de_v (pv 6)) (da_cons (de_c1t call_tuple_of cs_tuple (by rfl) T.b_tuple (by decide +kernel) (de_v (pv 2))) (da_nil))))))))
theorem ok_p_law_first (T : Txt K Wd.w mg) : FnOk P Wd.w K mg base CX0 1 T.p_law_first_a T.p_law_first_fd ["rule", "now"] (spD K 2 fn_p_law_first) := by
  refine fn_ok (k := 0) (N := ["rule", "now"]) T.p_law_first_F sc_p_law_first fun cdv A outer s H hr => ?_
  have hu := hr.units
  exact ds_cons (ds_if ((dw_or (dt_cmp op_isN (by first | exact nobehind _ (by decide) (by decide) | rfl) os_is (de_ix (ixr hu) (fun _ _ => rfl) os_ix (de_v (pv 0)) (de_int)) (de_non)) (dw_or1 (dt_cmp (opr_gt hu) (by first | exact nobehind _ (by decide) (by decide) | rfl) os_gt (de_ix (ixr hu) (fun _ _ => rfl) os_ix (de_v (pv 0)) (de_int)) (de_v (pv 1))))).pt) (ds_one (ds_ret (de_int))) (ds_nil))
      (ds_one (ds_ret (de_op opr_add os_add (de_op op_sub os_sub (de_v (pv 1)) (de_ix (ixr hu) (fun _ _ => rfl) os_ix (de_v (pv 0)) (de_int))) (de_int))))
theorem ok_p_law_cells (T : Txt K Wd.w mg) : FnOk P Wd.w K mg base CX0 1 T.p_law_cells_a T.p_law_cells_fd ["rule", "now"] (spD K 2 fn_p_law_cells) := by
  refine fn_ok (k := 0) (N := ["rule", "now", "had", "i", "grain", "age", "low", "k"]) T.p_law_cells_F sc_p_law_cells fun cdv A outer s H hr => ?_
  have hu := hr.units
  exact ds_cons (ds_set (i := 2) sc_p_law_cells.nd rfl (by first | exact .inl rfl | exact .inr rfl) (de_lst (da_nil)))
      (ds_cons (ds_for PassesOwn.never rfl (di_r1 (by rfl) T.b_range (da_cons (de_c1 cr_len cs_len (by rfl) T.b_len PySem.boot_len (de_ix (ixr hu) (fun _ _ => rfl) os_ix (de_v (pv 0)) (de_int))) (da_nil))) (dg_n (i := 3) sc_p_law_cells.nd rfl (by first | exact .inl rfl | exact .inr rfl)) (ds_cons (ds_set (i := 4) sc_p_law_cells.nd rfl (by first | exact .inl rfl | exact .inr rfl) (de_ix (ixr hu) (fun _ _ => rfl) os_ix (de_ix (ixr hu) (fun _ _ => rfl) os_ix (de_ix (ixr hu) (fun _ _ => rfl) os_ix (de_v (pv 0)) (de_int)) (de_v (pv 3))) (de_int)))
      (ds_cons (ds_set (i := 5) sc_p_law_cells.nd rfl (by first | exact .inl rfl | exact .inr rfl) (de_ix (ixr hu) (fun _ _ => rfl) os_ix (de_ix (ixr hu) (fun _ _ => rfl) os_ix (de_ix (ixr hu) (fun _ _ => rfl) os_ix (de_v (pv 0)) (de_int)) (de_v (pv 3))) (de_int)))
      (ds_cons (ds_set (i := 6) sc_p_law_cells.nd rfl (by first | exact .inl rfl | exact .inr rfl) (de_int))
      (ds_cons (ds_if ((dw_and (dt_cmp op_notN (by first | exact nobehind _ (by decide) (by decide) | rfl) os_isnot (de_v (pv 5)) (de_non)) (dw_and1 (dt_cmp (opr_le hu) (by first | exact nobehind _ (by decide) (by decide) | rfl) os_le (de_v (pv 5)) (de_v (pv 1))))).pt) (ds_one (ds_set (i := 6) sc_p_law_cells.nd rfl (by first | exact .inl rfl | exact .inr rfl) (de_op opr_div os_div (de_op op_sub os_sub (de_v (pv 1)) (de_v (pv 5))) (de_v (pv 4))))) (ds_nil))
      (ds_one (ds_set (i := 2) sc_p_law_cells.nd rfl (by first | exact .inl rfl | exact .inr rfl) (de_op opr_add os_add (de_v (pv 2)) (de_lc (own := [("k", 7)]) rfl sc_p_law_cells.nd (di_r2 (by rfl) T.b_range (da_cons (de_v (pv 6)) (da_cons (de_op opr_add os_add (de_op opr_div os_div (de_v (pv 1)) (de_v (pv 4))) (de_int)) (da_nil)))) (blkOk_by (own := [("k", 7)]) (N := ["rule", "now", "had", "i", "grain", "age", "low", "k"]) (sc := defScope s_p_law_cells) (by decide +kernel)) keep_n (by decide) (fun _ _ _ _ _ => dg_n (i := 7) sc_p_law_cells.nd rfl (by first | exact .inl rfl | exact .inr rfl)) (fun _ _ _ _ _ => dts_nil) (fun _ _ _ _ _ => de_tup (da_cons (de_v (pv 3)) (da_cons (de_v (pv 7)) (da_nil)))))))))))))
      (ds_one (ds_ret (de_c1t call_tuple_of cs_tuple (by rfl) T.b_tuple (by decide +kernel) (de_v (pv 2))))))
theorem ok_p_law_measured (T : Txt K Wd.w mg) : FnOk P Wd.w K mg base CX0 1 T.p_law_measured_a T.p_law_measured_fd ["points", "measure"] (spD K 2 fn_p_law_measured) := by
  refine fn_ok (k := 0) (N := ["points", "measure", "values", "one", "point", "value"]) T.p_law_measured_F sc_p_law_measured fun cdv A outer s H hr => ?_
  have hu := hr.units
  exact ds_cons (ds_setLc (i := 2) (own := [("point", 4)]) rfl sc_p_law_measured.nd rfl rfl (sw_true rfl rfl rfl (by decide +kernel)) (di_e (de_v (pv 0))) (blkOk_by (own := [("point", 4)]) (N := ["points", "measure", "values", "one", "point", "value"]) (sc := defScope s_p_law_measured) (by decide +kernel)) keep_n (by decide) (fun _ _ _ _ _ => dg_n (i := 4) sc_p_law_measured.nd rfl (by first | exact .inl rfl | exact .inr rfl)) (fun _ _ _ _ _ => dts_nil) (fun _ _ _ _ _ => de_ix (ixr hu) (fun _ _ => rfl) os_ix (de_v (pv 4)) (de_int)))
      (ds_cons (ds_if (dt_cmp (opr_eq hu) (by first | exact nobehind _ (by decide) (by decide) | rfl) os_eq (de_v (pv 1)) (de_str)) (ds_one (ds_ret (de_c1 cr_len cs_len (by rfl) T.b_len PySem.boot_len (de_v (pv 2))))) (ds_nil))
      (ds_cons (ds_if (dt_cmp (opr_eq hu) (by first | exact nobehind _ (by decide) (by decide) | rfl) os_eq (de_v (pv 1)) (de_str)) (ds_one (ds_ret (de_c1 (cr_sum rfl) cs_sum (by rfl) T.b_sum (by decide +kernel) (de_v (pv 2))))) (ds_nil))
      (ds_cons (ds_if (dt_cmp (opr_eq hu) (by first | exact nobehind _ (by decide) (by decide) | rfl) os_eq (de_v (pv 1)) (de_str)) (ds_one (ds_ret (de_c1 (cr_sum rfl) cs_sum (by rfl) T.b_sum (by decide +kernel) (de_lc (own := [("value", 5)]) rfl sc_p_law_measured.nd (di_e (de_v (pv 2))) (blkOk_by (own := [("value", 5)]) (N := ["points", "measure", "values", "one", "point", "value"]) (sc := defScope s_p_law_measured) (by decide +kernel)) keep_n (by decide) (fun _ _ _ _ _ => dg_n (i := 5) sc_p_law_measured.nd rfl (by first | exact .inl rfl | exact .inr rfl)) (fun _ _ _ _ _ => dts_nil) (fun _ _ _ _ _ => de_op opr_mul os_mul (de_v (pv 5)) (de_v (pv 5))))))) (ds_nil))
      (ds_cons (ds_if (dt_not (dt_tru (de_v (pv 2)))) (ds_one (ds_ret (de_non))) (ds_nil))
      (ds_cons (ds_if (dt_cmp (opr_eq hu) (by first | exact nobehind _ (by decide) (by decide) | rfl) os_eq (de_v (pv 1)) (de_str)) (ds_one (ds_ret (de_c1 (cr_min rfl) cs_minL (by rfl) T.b_min (by decide +kernel) (de_v (pv 2))))) (ds_nil))
      (ds_cons (ds_if (dt_cmp (opr_eq hu) (by first | exact nobehind _ (by decide) (by decide) | rfl) os_eq (de_v (pv 1)) (de_str)) (ds_one (ds_ret (de_c1 (cr_max rfl) cs_maxL (by rfl) T.b_max (by decide +kernel) (de_v (pv 2))))) (ds_nil))
      (ds_cons (ds_set (i := 3) sc_p_law_measured.nd rfl (by first | exact .inl rfl | exact .inr rfl) (de_if (dt_cmp (opr_eq hu) (by first | exact nobehind _ (by decide) (by decide) | rfl) os_eq (de_v (pv 1)) (de_str)) (de_ix (ixr hu) (fun _ _ => rfl) os_ix (de_v (pv 0)) (de_int)) (de_ix (ixr hu) (fun _ _ => rfl) os_ix (de_v (pv 0)) (de_un un_neg us_neg (de_int)))))
      (ds_one (ds_ret (de_tup (da_cons (de_ix (ixr hu) (fun _ _ => rfl) os_ix (de_v (pv 3)) (de_int)) (da_cons (de_ix (ixr hu) (fun _ _ => rfl) os_ix (de_v (pv 3)) (de_int)) (da_nil)))))))))))))
theorem ok_p_law_facts (T : Txt K Wd.w mg) : FnOk P Wd.w K mg base CX0 2 T.p_law_facts_a T.p_law_facts_fd ["rule", "now", "past"] (spD K 3 fn_p_law_facts) := by
  refine fn_ok (k := 1) (N := ["rule", "now", "past", "facts", "cell", "keep", "points", "measure", "point"]) T.p_law_facts_F sc_p_law_facts fun cdv A outer s H hr => ?_
  have hu := hr.units
  exact ds_cons (ds_set (i := 3) sc_p_law_facts.nd rfl (by first | exact .inl rfl | exact .inr rfl) (de_lst (da_nil)))
      (ds_cons (ds_for PassesOwn.never rfl (di_e (de_call (ds0 := []) (ok_p_law_cells T) (hr.mono (by decide)) (by rfl) T.p_law_cells_m T.p_law_cells_F.kp T.p_law_cells_b .nil (fun _ => rfl) (da_cons (de_v (pv 0)) (da_cons (de_v (pv 1)) (da_nil))))) (dg_n (i := 4) sc_p_law_facts.nd rfl (by first | exact .inl rfl | exact .inr rfl)) (ds_cons (ds_set (i := 5) sc_p_law_facts.nd rfl (by first | exact .inl rfl | exact .inr rfl) (de_ix (ixr hu) (fun _ _ => rfl) os_ix (de_ix (ixr hu) (fun _ _ => rfl) os_ix (de_v (pv 0)) (de_int)) (de_ix (ixr hu) (fun _ _ => rfl) os_ix (de_v (pv 4)) (de_int))))
      (ds_cons (ds_setLc (i := 6) (own := [("point", 8)]) rfl sc_p_law_facts.nd rfl rfl (sw_true rfl rfl rfl (by decide +kernel)) (di_e (de_v (pv 2))) (blkOk_by (own := [("point", 8)]) (N := ["rule", "now", "past", "facts", "cell", "keep", "points", "measure", "point"]) (sc := defScope s_p_law_facts) (by decide +kernel)) keep_n (by decide) (fun _ _ _ _ _ => dg_n (i := 8) sc_p_law_facts.nd rfl (by first | exact .inl rfl | exact .inr rfl)) (fun _ _ _ _ _ => dts_one (dt_cmp (opr_eq hu) (by first | exact nobehind _ (by decide) (by decide) | rfl) os_eq (de_op opr_div os_div (de_ix (ixr hu) (fun _ _ => rfl) os_ix (de_v (pv 8)) (de_int)) (de_ix (ixr hu) (fun _ _ => rfl) os_ix (de_v (pv 5)) (de_int))) (de_ix (ixr hu) (fun _ _ => rfl) os_ix (de_v (pv 4)) (de_int)))) (fun _ _ _ _ _ => de_v (pv 8)))
      (ds_one (ds_for PassesOwn.never rfl (di_e (de_ix (ixr hu) (fun _ _ => rfl) os_ix (de_v (pv 5)) (de_int))) (dg_n (i := 7) sc_p_law_facts.nd rfl (by first | exact .inl rfl | exact .inr rfl)) (ds_one (ds_app (i := 3) (pv 3) (de_op opr_add os_add (de_v (pv 4)) (de_tup (da_cons (de_v (pv 7)) (da_cons (de_call (ds0 := []) (ok_p_law_measured T) (hr.mono (by decide)) (by rfl) T.p_law_measured_m T.p_law_measured_F.kp T.p_law_measured_b .nil (fun _ => rfl) (da_cons (de_v (pv 6)) (da_cons (de_v (pv 7)) (da_nil)))) (da_nil))))))))))))
      (ds_one (ds_ret (de_c1t call_tuple_of cs_tuple (by rfl) T.b_tuple (by decide +kernel) (de_v (pv 3))))))
theorem ok_p_law_time (T : Txt K Wd.w mg) : FnOk P Wd.w K mg base CX0 3 T.p_law_time_a T.p_law_time_fd ["deck", "rule", "now"] (spD K 3 fn_p_law_time) := by
  refine fn_ok (k := 2) (N := ["deck", "rule", "now", "choice", "time", "had", "cell"]) T.p_law_time_F sc_p_law_time fun cdv A outer s H hr => ?_
  have hu := hr.units
  exact ds_cons (ds_set (i := 3) sc_p_law_time.nd rfl (by first | exact .inl rfl | exact .inr rfl) (de_call (ds0 := []) (ok_p_law_draw T) (hr.mono (by decide)) (by rfl) T.p_law_draw_m T.p_law_draw_F.kp T.p_law_draw_b .nil (fun _ => rfl) (da_cons (de_v (pv 0)) (da_cons (de_int) (da_nil)))))
      (ds_cons (ds_set (i := 4) sc_p_law_time.nd rfl (by first | exact .inl rfl | exact .inr rfl) (de_call (ds0 := []) (ok_p_law_draw T) (hr.mono (by decide)) (by rfl) T.p_law_draw_m T.p_law_draw_F.kp T.p_law_draw_b .nil (fun _ => rfl) (da_cons (de_v (pv 0)) (da_cons (de_op opr_add os_add (de_v (pv 2)) (de_int)) (da_nil)))))
      (ds_cons (ds_if (dt_cmp (opr_eq hu) (by first | exact nobehind _ (by decide) (by decide) | rfl) os_eq (de_v (pv 3)) (de_int)) (ds_one (ds_set (i := 4) sc_p_law_time.nd rfl (by first | exact .inl rfl | exact .inr rfl) (de_op op_sub os_sub (de_op opr_add os_add (de_call (ds0 := []) (ok_p_law_first T) (hr.mono (by decide)) (by rfl) T.p_law_first_m T.p_law_first_F.kp T.p_law_first_b .nil (fun _ => rfl) (da_cons (de_v (pv 1)) (da_cons (de_v (pv 2)) (da_nil)))) (de_call (ds0 := []) (ok_p_law_draw T) (hr.mono (by decide)) (by rfl) T.p_law_draw_m T.p_law_draw_F.kp T.p_law_draw_b .nil (fun _ => rfl) (da_cons (de_v (pv 0)) (da_cons (de_int) (da_nil))))) (de_int)))) (ds_nil))
      (ds_cons (ds_set (i := 5) sc_p_law_time.nd rfl (by first | exact .inl rfl | exact .inr rfl) (de_call (ds0 := []) (ok_p_law_cells T) (hr.mono (by decide)) (by rfl) T.p_law_cells_m T.p_law_cells_F.kp T.p_law_cells_b .nil (fun _ => rfl) (da_cons (de_v (pv 1)) (da_cons (de_v (pv 2)) (da_nil)))))
      (ds_cons (ds_if ((dw_and (dt_cmp (opr_gt hu) (by first | exact nobehind _ (by decide) (by decide) | rfl) os_gt (de_v (pv 3)) (de_int)) (dw_and1 (dt_tru (de_v (pv 5))))).pt) (ds_cons (ds_set (i := 6) sc_p_law_time.nd rfl (by first | exact .inl rfl | exact .inr rfl) (de_call (ds0 := []) (ok_p_law_pick T) (hr.mono (by decide)) (by rfl) T.p_law_pick_m T.p_law_pick_F.kp T.p_law_pick_b .nil (fun _ => rfl) (da_cons (de_v (pv 0)) (da_cons (de_v (pv 5)) (da_nil)))))
      (ds_one (ds_set (i := 4) sc_p_law_time.nd rfl (by first | exact .inl rfl | exact .inr rfl) (de_op op_sub os_sub (de_op opr_add os_add (de_op opr_mul os_mul (de_ix (ixr hu) (fun _ _ => rfl) os_ix (de_ix (ixr hu) (fun _ _ => rfl) os_ix (de_ix (ixr hu) (fun _ _ => rfl) os_ix (de_v (pv 1)) (de_int)) (de_ix (ixr hu) (fun _ _ => rfl) os_ix (de_v (pv 6)) (de_int))) (de_int)) (de_op opr_add os_add (de_ix (ixr hu) (fun _ _ => rfl) os_ix (de_v (pv 6)) (de_int)) (de_call (ds0 := []) (ok_p_law_draw T) (hr.mono (by decide)) (by rfl) T.p_law_draw_m T.p_law_draw_F.kp T.p_law_draw_b .nil (fun _ => rfl) (da_cons (de_v (pv 0)) (da_cons (de_int) (da_nil)))))) (de_call (ds0 := []) (ok_p_law_draw T) (hr.mono (by decide)) (by rfl) T.p_law_draw_m T.p_law_draw_F.kp T.p_law_draw_b .nil (fun _ => rfl) (da_cons (de_v (pv 0)) (da_cons (de_int) (da_nil))))) (de_int))))) (ds_nil))
      (ds_one (ds_ret (de_cb (call_max2 rfl) cs_max2 (by rfl) T.b_max (by decide +kernel) (da_cons (de_int) (da_cons (de_cb (call_min2 rfl) cs_min2 (by rfl) T.b_min (by decide +kernel) (da_cons (de_v (pv 2)) (da_cons (de_v (pv 4)) (da_nil)))) (da_nil))))))))))
theorem ok_p_law_past (T : Txt K Wd.w mg) : FnOk P Wd.w K mg base CX0 4 T.p_law_past_a T.p_law_past_fd ["deck", "rule", "now"] (spD K 3 fn_p_law_past) := by
  refine fn_ok (k := 3) (N := ["deck", "rule", "now", "held", "time", "k", "number", "value", "key"]) T.p_law_past_F sc_p_law_past fun cdv A outer s H hr => ?_
  have hu := hr.units
  exact ds_cons (ds_set (i := 3) sc_p_law_past.nd rfl (by first | exact .inl rfl | exact .inr rfl) (de_dnewT))
      (ds_cons (ds_set (i := 4) sc_p_law_past.nd rfl (by first | exact .inl rfl | exact .inr rfl) (de_v (pv 2)))
      (ds_cons (ds_for PassesOwn.never rfl (di_r1 (by rfl) T.b_range (da_cons (de_call (ds0 := []) (ok_p_law_draw T) (hr.mono (by decide)) (by rfl) T.p_law_draw_m T.p_law_draw_F.kp T.p_law_draw_b .nil (fun _ => rfl) (da_cons (de_v (pv 0)) (da_cons (de_int) (da_nil)))) (da_nil))) (dg_n (i := 5) sc_p_law_past.nd rfl (by first | exact .inl rfl | exact .inr rfl)) (ds_cons (ds_if (dt_cmp (opr_gt hu) (by first | exact nobehind _ (by decide) (by decide) | rfl) os_gt (de_call (ds0 := []) (ok_p_law_draw T) (hr.mono (by decide)) (by rfl) T.p_law_draw_m T.p_law_draw_F.kp T.p_law_draw_b .nil (fun _ => rfl) (da_cons (de_v (pv 0)) (da_cons (de_int) (da_nil)))) (de_int)) (ds_one (ds_set (i := 4) sc_p_law_past.nd rfl (by first | exact .inl rfl | exact .inr rfl) (de_call (ds0 := []) (ok_p_law_time T) (hr.mono (by decide)) (by rfl) T.p_law_time_m T.p_law_time_F.kp T.p_law_time_b .nil (fun _ => rfl) (da_cons (de_v (pv 0)) (da_cons (de_v (pv 1)) (da_cons (de_v (pv 2)) (da_nil))))))) (ds_nil))
      (ds_cons (ds_set (i := 6) sc_p_law_past.nd rfl (by first | exact .inl rfl | exact .inr rfl) (de_call (ds0 := []) (ok_p_law_draw T) (hr.mono (by decide)) (by rfl) T.p_law_draw_m T.p_law_draw_F.kp T.p_law_draw_b .nil (fun _ => rfl) (da_cons (de_v (pv 0)) (da_cons (de_int) (da_nil)))))
      (ds_cons (ds_if (dt_cmp (opr_eq hu) (by first | exact nobehind _ (by decide) (by decide) | rfl) os_eq (de_call (ds0 := []) (ok_p_law_draw T) (hr.mono (by decide)) (by rfl) T.p_law_draw_m T.p_law_draw_F.kp T.p_law_draw_b .nil (fun _ => rfl) (da_cons (de_v (pv 0)) (da_cons (de_int) (da_nil)))) (de_int)) (ds_one (ds_set (i := 6) sc_p_law_past.nd rfl (by first | exact .inl rfl | exact .inr rfl) (de_op opr_add os_add (de_op op_pow os_I (de_int) (de_int)) (de_call (ds0 := []) (ok_p_law_draw T) (hr.mono (by decide)) (by rfl) T.p_law_draw_m T.p_law_draw_F.kp T.p_law_draw_b .nil (fun _ => rfl) (da_cons (de_v (pv 0)) (da_cons (de_int) (da_nil))))))) (ds_nil))
      (ds_cons (ds_set (i := 7) sc_p_law_past.nd rfl (by first | exact .inl rfl | exact .inr rfl) (de_op op_sub os_sub (de_call (ds0 := []) (ok_p_law_draw T) (hr.mono (by decide)) (by rfl) T.p_law_draw_m T.p_law_draw_F.kp T.p_law_draw_b .nil (fun _ => rfl) (da_cons (de_v (pv 0)) (da_cons (de_int) (da_nil)))) (de_int)))
      (ds_cons (ds_if (dt_cmp (opr_eq hu) (by first | exact nobehind _ (by decide) (by decide) | rfl) os_eq (de_call (ds0 := []) (ok_p_law_draw T) (hr.mono (by decide)) (by rfl) T.p_law_draw_m T.p_law_draw_F.kp T.p_law_draw_b .nil (fun _ => rfl) (da_cons (de_v (pv 0)) (da_cons (de_int) (da_nil)))) (de_int)) (ds_one (ds_set (i := 7) sc_p_law_past.nd rfl (by first | exact .inl rfl | exact .inr rfl) (de_op opr_add os_add (de_op opr_mul os_mul (de_op op_sub os_sub (de_op opr_mul os_mul (de_int) (de_call (ds0 := []) (ok_p_law_draw T) (hr.mono (by decide)) (by rfl) T.p_law_draw_m T.p_law_draw_F.kp T.p_law_draw_b .nil (fun _ => rfl) (da_cons (de_v (pv 0)) (da_cons (de_int) (da_nil))))) (de_int)) (de_op op_pow os_I (de_int) (de_int))) (de_call (ds0 := []) (ok_p_law_draw T) (hr.mono (by decide)) (by rfl) T.p_law_draw_m T.p_law_draw_F.kp T.p_law_draw_b .nil (fun _ => rfl) (da_cons (de_v (pv 0)) (da_cons (de_int) (da_nil))))))) (ds_nil))
      (ds_one (ds_tput (i := 3) hu (pv 3) (de_tup (da_cons (de_v (pv 4)) (da_cons (de_v (pv 6)) (da_nil)))) (de_v (pv 7))))))))))
      (ds_one (ds_ret (de_c1t call_tuple_of cs_tuple (by rfl) T.b_tuple (by decide +kernel) (de_lc (own := [("key", 8)]) rfl sc_p_law_past.nd (di_e (de_c1 (cr_srt hu) cs_srt (by rfl) T.b_sorted (by decide +kernel) (de_listKT rfl (de_v (pv 3)) (by rfl) T.b_list))) (blkOk_by (own := [("key", 8)]) (N := ["deck", "rule", "now", "held", "time", "k", "number", "value", "key"]) (sc := defScope s_p_law_past) (by decide +kernel)) keep_n (by decide) (fun _ _ _ _ _ => dg_n (i := 8) sc_p_law_past.nd rfl (by first | exact .inl rfl | exact .inr rfl)) (fun _ _ _ _ _ => dts_nil) (fun _ _ _ _ _ => de_op opr_add os_add (de_v (pv 8)) (de_tup (da_cons (de_ix (ixr hu) (fun _ _ => rfl) os_ix (de_v (pv 3)) (de_v (pv 8))) (da_nil))))))))))
theorem ok_law (T : Txt K Wd.w mg) : FnOk P Wd.w K mg base CX0 9 T.law_a T.law_fd ["script"] (spD K 1 fn_law) := by
  refine fn_ok (k := 8) (N := ["script", "deck", "now", "rule", "past", "first", "one", "points", "point"]) T.law_F sc_law fun cdv A outer s H hr => ?_
  have hu := hr.units
  exact ds_cons (ds_set (i := 1) sc_law.nd rfl (by first | exact .inl rfl | exact .inr rfl) (de_call (ds0 := []) (ok_p_law_deck T) (hr.mono (by decide)) (by rfl) T.p_law_deck_m T.p_law_deck_F.kp T.p_law_deck_b .nil (fun _ => rfl) (da_cons (de_v (pv 0)) (da_cons (de_int) (da_nil)))))
      (ds_cons (ds_set (i := 2) sc_law.nd rfl (by first | exact .inl rfl | exact .inr rfl) (de_call (ds0 := []) (ok_p_law_draw T) (hr.mono (by decide)) (by rfl) T.p_law_draw_m T.p_law_draw_F.kp T.p_law_draw_b .nil (fun _ => rfl) (da_cons (de_v (pv 1)) (da_cons (de_int) (da_nil)))))
      (ds_cons (ds_if (dt_cmp (opr_eq hu) (by first | exact nobehind _ (by decide) (by decide) | rfl) os_eq (de_call (ds0 := []) (ok_p_law_draw T) (hr.mono (by decide)) (by rfl) T.p_law_draw_m T.p_law_draw_F.kp T.p_law_draw_b .nil (fun _ => rfl) (da_cons (de_v (pv 1)) (da_cons (de_int) (da_nil)))) (de_int)) (ds_one (ds_set (i := 2) sc_law.nd rfl (by first | exact .inl rfl | exact .inr rfl) (de_call (ds0 := []) (ok_p_law_pick T) (hr.mono (by decide)) (by rfl) T.p_law_pick_m T.p_law_pick_F.kp T.p_law_pick_b .nil (fun _ => rfl) (da_cons (de_v (pv 1)) (da_cons (de_tup (da_cons (de_int) (da_cons (de_call (ds0 := []) (ok_p_law_draw T) (hr.mono (by decide)) (by rfl) T.p_law_draw_m T.p_law_draw_F.kp T.p_law_draw_b .nil (fun _ => rfl) (da_cons (de_v (pv 1)) (da_cons (de_int) (da_nil)))) (da_cons (de_call (ds0 := []) (ok_p_law_draw T) (hr.mono (by decide)) (by rfl) T.p_law_draw_m T.p_law_draw_F.kp T.p_law_draw_b .nil (fun _ => rfl) (da_cons (de_v (pv 1)) (da_cons (de_int) (da_nil)))) (da_cons (de_call (ds0 := []) (ok_p_law_draw T) (hr.mono (by decide)) (by rfl) T.p_law_draw_m T.p_law_draw_F.kp T.p_law_draw_b .nil (fun _ => rfl) (da_cons (de_v (pv 1)) (da_cons (de_int) (da_nil)))) (da_nil)))))) (da_nil)))))) (ds_nil))
      (ds_cons (ds_set (i := 3) sc_law.nd rfl (by first | exact .inl rfl | exact .inr rfl) (de_call (ds0 := []) (ok_p_law_rule T) (hr.mono (by decide)) (by rfl) T.p_law_rule_m T.p_law_rule_F.kp T.p_law_rule_b .nil (fun _ => rfl) (da_cons (de_v (pv 1)) (da_cons (de_v (pv 2)) (da_nil)))))
      (ds_cons (ds_set (i := 4) sc_law.nd rfl (by first | exact .inl rfl | exact .inr rfl) (de_call (ds0 := []) (ok_p_law_past T) (hr.mono (by decide)) (by rfl) T.p_law_past_m T.p_law_past_F.kp T.p_law_past_b .nil (fun _ => rfl) (da_cons (de_v (pv 1)) (da_cons (de_v (pv 3)) (da_cons (de_v (pv 2)) (da_nil))))))
      (ds_cons (ds_if (dt_not (dt_tru (de_call (ds0 := []) (ok_p_law_same T 6) (hr.mono (by decide)) (by rfl) T.p_law_same_m T.p_law_same_F.kp T.p_law_same_b .nil (fun _ => rfl) (da_cons (de_call (ds0 := []) (ok_cells T) (hr.mono (by decide)) (by rfl) T.cells_m T.cells_F.kp T.cells_b .nil (fun _ => rfl) (da_cons (de_v (pv 3)) (da_cons (de_v (pv 2)) (da_nil)))) (da_cons (de_call (ds0 := []) (ok_p_law_cells T) (hr.mono (by decide)) (by rfl) T.p_law_cells_m T.p_law_cells_F.kp T.p_law_cells_b .nil (fun _ => rfl) (da_cons (de_v (pv 3)) (da_cons (de_v (pv 2)) (da_nil)))) (da_nil)))))) (ds_one (ds_ret (de_bl))) (ds_nil))
      (ds_cons (ds_set (i := 5) sc_law.nd rfl (by first | exact .inl rfl | exact .inr rfl) (de_call (ds0 := []) (ok_p_law_first T) (hr.mono (by decide)) (by rfl) T.p_law_first_m T.p_law_first_F.kp T.p_law_first_b .nil (fun _ => rfl) (da_cons (de_v (pv 3)) (da_cons (de_v (pv 2)) (da_nil)))))
      (ds_cons (ds_for PassesOwn.never rfl (di_e (de_tup (da_cons (de_v (pv 4)) (da_cons (de_sl (de_v (pv 4)) (dp_none) (dp_some (de_un un_neg us_neg (de_int)))) (da_cons (de_tup (da_nil)) (da_nil)))))) (dg_n (i := 6) sc_law.nd rfl (by first | exact .inl rfl | exact .inr rfl)) (ds_cons (ds_set (i := 7) sc_law.nd rfl (by first | exact .inl rfl | exact .inr rfl) (de_c1t call_tuple_of cs_tuple (by rfl) T.b_tuple (by decide +kernel) (de_lc (own := [("point", 8)]) rfl sc_law.nd (di_e (de_v (pv 6))) (blkOk_by (own := [("point", 8)]) (N := ["script", "deck", "now", "rule", "past", "first", "one", "points", "point"]) (sc := defScope s_law) (by decide +kernel)) keep_n (by decide) (fun _ _ _ _ _ => dg_n (i := 8) sc_law.nd rfl (by first | exact .inl rfl | exact .inr rfl)) (fun _ _ _ _ _ => dts_one (dt_cmp (opr_ge hu) (by first | exact nobehind _ (by decide) (by decide) | rfl) os_ge (de_ix (ixr hu) (fun _ _ => rfl) os_ix (de_v (pv 8)) (de_int)) (de_v (pv 5)))) (fun _ _ _ _ _ => de_v (pv 8)))))
      (ds_one (ds_if (dt_not (dt_tru (de_call (ds0 := []) (ok_p_law_same T 6) (hr.mono (by decide)) (by rfl) T.p_law_same_m T.p_law_same_F.kp T.p_law_same_b .nil (fun _ => rfl) (da_cons (de_call (ds0 := []) (ok_left T) (hr.mono (by decide)) (by rfl) T.left_m T.left_F.kp T.left_b .nil (fun _ => rfl) (da_cons (de_v (pv 3)) (da_cons (de_v (pv 2)) (da_cons (de_v (pv 6)) (da_nil))))) (da_cons (de_tup (da_cons (de_v (pv 7)) (da_cons (de_call (ds0 := []) (ok_p_law_facts T) (hr.mono (by decide)) (by rfl) T.p_law_facts_m T.p_law_facts_F.kp T.p_law_facts_b .nil (fun _ => rfl) (da_cons (de_v (pv 3)) (da_cons (de_v (pv 2)) (da_cons (de_v (pv 6)) (da_nil))))) (da_nil)))) (da_nil)))))) (ds_one (ds_ret (de_bl))) (ds_nil)))))
      (ds_one (ds_ret (de_call (ds0 := []) (ok_p_law_same T 6) (hr.mono (by decide)) (by rfl) T.p_law_same_m T.p_law_same_F.kp T.p_law_same_b .nil (fun _ => rfl) (da_cons (de_call (ds0 := []) (ok_cells T) (hr.mono (by decide)) (by rfl) T.cells_m T.cells_F.kp T.cells_b .nil (fun _ => rfl) (da_cons (de_v (pv 3)) (da_cons (de_v (pv 2)) (da_nil)))) (da_cons (de_call (ds0 := []) (ok_p_law_cells T) (hr.mono (by decide)) (by rfl) T.p_law_cells_m T.p_law_cells_F.kp T.p_law_cells_b .nil (fun _ => rfl) (da_cons (de_v (pv 3)) (da_cons (de_v (pv 2)) (da_nil)))) (da_nil)))))))))))))
end
end K20
namespace K20
open PySem PySem.Spec PyProof.Rows L2 DL
theorem all_mk {l : PySem.W.OpenLaw} {w : World} {K : PySem.W.Frag} {h : Heap} {mg : Str → Option Value} {fa : Addr} (X : K.In h) (G : h.Ns mainGlobals mg) (hfa : mg "law" = some (.ref fa))
    {fis_measure : Addr} {odis_measure anis_measure : Option Addr} {slis_measure : Array (Option Value)} {ocis_measure kVis_measure dcis_measure pmis_measure cdis_measure ctis_measure : Value}
    {fis_int : Addr} {odis_int anis_int : Option Addr} {slis_int : Array (Option Value)} {ocis_int kVis_int dcis_int pmis_int cdis_int ctis_int : Value}
    {fis_count : Addr} {odis_count anis_count : Option Addr} {slis_count : Array (Option Value)} {ocis_count kVis_count dcis_count pmis_count cdis_count ctis_count : Value}
    {fis_int_within : Addr} {odis_int_within anis_int_within : Option Addr} {slis_int_within : Array (Option Value)} {ocis_int_within kVis_int_within dcis_int_within pmis_int_within cdis_int_within ctis_int_within : Value}
    {fis_tuple_of : Addr} {odis_tuple_of anis_tuple_of : Option Addr} {slis_tuple_of : Array (Option Value)} {ocis_tuple_of kVis_tuple_of dcis_tuple_of pmis_tuple_of cdis_tuple_of ctis_tuple_of : Value}
    {fis_point : Addr} {odis_point anis_point : Option Addr} {slis_point : Array (Option Value)} {ocis_point kVis_point dcis_point pmis_point cdis_point ctis_point : Value}
    {fplace_of : Addr} {odplace_of anplace_of : Option Addr} {slplace_of : Array (Option Value)} {ocplace_of kVplace_of dcplace_of pmplace_of cdplace_of ctplace_of : Value}
    {fis_past : Addr} {odis_past anis_past : Option Addr} {slis_past : Array (Option Value)} {ocis_past kVis_past dcis_past pmis_past cdis_past ctis_past : Value}
    {fis_past_up_to : Addr} {odis_past_up_to anis_past_up_to : Option Addr} {slis_past_up_to : Array (Option Value)} {ocis_past_up_to kVis_past_up_to dcis_past_up_to pmis_past_up_to cdis_past_up_to ctis_past_up_to : Value}
    {fcheck_past_up_to : Addr} {odcheck_past_up_to ancheck_past_up_to : Option Addr} {slcheck_past_up_to : Array (Option Value)} {occheck_past_up_to kVcheck_past_up_to dccheck_past_up_to pmcheck_past_up_to cdcheck_past_up_to ctcheck_past_up_to : Value}
    {fcount_of : Addr} {odcount_of ancount_of : Option Addr} {slcount_of : Array (Option Value)} {occount_of kVcount_of dccount_of pmcount_of cdcount_of ctcount_of : Value}
    {fsum_of : Addr} {odsum_of ansum_of : Option Addr} {slsum_of : Array (Option Value)} {ocsum_of kVsum_of dcsum_of pmsum_of cdsum_of ctsum_of : Value}
    {fsquares_of : Addr} {odsquares_of ansquares_of : Option Addr} {slsquares_of : Array (Option Value)} {ocsquares_of kVsquares_of dcsquares_of pmsquares_of cdsquares_of ctsquares_of : Value}
    {fleast_of : Addr} {odleast_of anleast_of : Option Addr} {slleast_of : Array (Option Value)} {ocleast_of kVleast_of dcleast_of pmleast_of cdleast_of ctleast_of : Value}
    {fgreatest_of : Addr} {odgreatest_of angreatest_of : Option Addr} {slgreatest_of : Array (Option Value)} {ocgreatest_of kVgreatest_of dcgreatest_of pmgreatest_of cdgreatest_of ctgreatest_of : Value}
    {ffirst_of : Addr} {odfirst_of anfirst_of : Option Addr} {slfirst_of : Array (Option Value)} {ocfirst_of kVfirst_of dcfirst_of pmfirst_of cdfirst_of ctfirst_of : Value}
    {flast_of : Addr} {odlast_of anlast_of : Option Addr} {sllast_of : Array (Option Value)} {oclast_of kVlast_of dclast_of pmlast_of cdlast_of ctlast_of : Value}
    {fmeasured : Addr} {odmeasured anmeasured : Option Addr} {slmeasured : Array (Option Value)} {ocmeasured kVmeasured dcmeasured pmmeasured cdmeasured ctmeasured : Value}
    {fis_moment : Addr} {odis_moment anis_moment : Option Addr} {slis_moment : Array (Option Value)} {ocis_moment kVis_moment dcis_moment pmis_moment cdis_moment ctis_moment : Value}
    {fis_grain : Addr} {odis_grain anis_grain : Option Addr} {slis_grain : Array (Option Value)} {ocis_grain kVis_grain dcis_grain pmis_grain cdis_grain ctis_grain : Value}
    {fis_age : Addr} {odis_age anis_age : Option Addr} {slis_age : Array (Option Value)} {ocis_age kVis_age dcis_age pmis_age cdis_age ctis_age : Value}
    {fis_row_of_measures : Addr} {odis_row_of_measures anis_row_of_measures : Option Addr} {slis_row_of_measures : Array (Option Value)} {ocis_row_of_measures kVis_row_of_measures dcis_row_of_measures pmis_row_of_measures cdis_row_of_measures ctis_row_of_measures : Value}
    {fis_keep : Addr} {odis_keep anis_keep : Option Addr} {slis_keep : Array (Option Value)} {ocis_keep kVis_keep dcis_keep pmis_keep cdis_keep ctis_keep : Value}
    {fis_row_of_keeps : Addr} {odis_row_of_keeps anis_row_of_keeps : Option Addr} {slis_row_of_keeps : Array (Option Value)} {ocis_row_of_keeps kVis_row_of_keeps dcis_row_of_keeps pmis_row_of_keeps cdis_row_of_keeps ctis_row_of_keeps : Value}
    {fis_rule : Addr} {odis_rule anis_rule : Option Addr} {slis_rule : Array (Option Value)} {ocis_rule kVis_rule dcis_rule pmis_rule cdis_rule ctis_rule : Value}
    {fcheck_rule : Addr} {odcheck_rule ancheck_rule : Option Addr} {slcheck_rule : Array (Option Value)} {occheck_rule kVcheck_rule dccheck_rule pmcheck_rule cdcheck_rule ctcheck_rule : Value}
    {fcheck_moment : Addr} {odcheck_moment ancheck_moment : Option Addr} {slcheck_moment : Array (Option Value)} {occheck_moment kVcheck_moment dccheck_moment pmcheck_moment cdcheck_moment ctcheck_moment : Value}
    {ffirst_time : Addr} {odfirst_time anfirst_time : Option Addr} {slfirst_time : Array (Option Value)} {ocfirst_time kVfirst_time dcfirst_time pmfirst_time cdfirst_time ctfirst_time : Value}
    {ffirst_cell : Addr} {odfirst_cell anfirst_cell : Option Addr} {slfirst_cell : Array (Option Value)} {ocfirst_cell kVfirst_cell dcfirst_cell pmfirst_cell cdfirst_cell ctfirst_cell : Value}
    {flast_cell : Addr} {odlast_cell anlast_cell : Option Addr} {sllast_cell : Array (Option Value)} {oclast_cell kVlast_cell dclast_cell pmlast_cell cdlast_cell ctlast_cell : Value}
    {fcell_numbers : Addr} {odcell_numbers ancell_numbers : Option Addr} {slcell_numbers : Array (Option Value)} {occell_numbers kVcell_numbers dccell_numbers pmcell_numbers cdcell_numbers ctcell_numbers : Value}
    {fcells : Addr} {odcells ancells : Option Addr} {slcells : Array (Option Value)} {occells kVcells dccells pmcells cdcells ctcells : Value}
    {fpoints_left : Addr} {odpoints_left anpoints_left : Option Addr} {slpoints_left : Array (Option Value)} {ocpoints_left kVpoints_left dcpoints_left pmpoints_left cdpoints_left ctpoints_left : Value}
    {fpoints_by_cell : Addr} {odpoints_by_cell anpoints_by_cell : Option Addr} {slpoints_by_cell : Array (Option Value)} {ocpoints_by_cell kVpoints_by_cell dcpoints_by_cell pmpoints_by_cell cdpoints_by_cell ctpoints_by_cell : Value}
    {ffacts_of_cell : Addr} {odfacts_of_cell anfacts_of_cell : Option Addr} {slfacts_of_cell : Array (Option Value)} {ocfacts_of_cell kVfacts_of_cell dcfacts_of_cell pmfacts_of_cell cdfacts_of_cell ctfacts_of_cell : Value}
    {ffacts_of_keep : Addr} {odfacts_of_keep anfacts_of_keep : Option Addr} {slfacts_of_keep : Array (Option Value)} {ocfacts_of_keep kVfacts_of_keep dcfacts_of_keep pmfacts_of_keep cdfacts_of_keep ctfacts_of_keep : Value}
    {fleft : Addr} {odleft anleft : Option Addr} {slleft : Array (Option Value)} {ocleft kVleft dcleft pmleft cdleft ctleft : Value}
    {fp_law_deck : Addr} {odp_law_deck anp_law_deck : Option Addr} {slp_law_deck : Array (Option Value)} {ocp_law_deck kVp_law_deck dcp_law_deck pmp_law_deck cdp_law_deck ctp_law_deck : Value}
    {fp_law_draw : Addr} {odp_law_draw anp_law_draw : Option Addr} {slp_law_draw : Array (Option Value)} {ocp_law_draw kVp_law_draw dcp_law_draw pmp_law_draw cdp_law_draw ctp_law_draw : Value}
    {fp_law_pick : Addr} {odp_law_pick anp_law_pick : Option Addr} {slp_law_pick : Array (Option Value)} {ocp_law_pick kVp_law_pick dcp_law_pick pmp_law_pick cdp_law_pick ctp_law_pick : Value}
    {fp_law_names : Addr} {odp_law_names anp_law_names : Option Addr} {slp_law_names : Array (Option Value)} {ocp_law_names kVp_law_names dcp_law_names pmp_law_names cdp_law_names ctp_law_names : Value}
    {fp_law_measures : Addr} {odp_law_measures anp_law_measures : Option Addr} {slp_law_measures : Array (Option Value)} {ocp_law_measures kVp_law_measures dcp_law_measures pmp_law_measures cdp_law_measures ctp_law_measures : Value}
    {fp_law_int : Addr} {odp_law_int anp_law_int : Option Addr} {slp_law_int : Array (Option Value)} {ocp_law_int kVp_law_int dcp_law_int pmp_law_int cdp_law_int ctp_law_int : Value}
    {fp_law_same : Addr} {odp_law_same anp_law_same : Option Addr} {slp_law_same : Array (Option Value)} {ocp_law_same kVp_law_same dcp_law_same pmp_law_same cdp_law_same ctp_law_same : Value}
    {fp_law_rule : Addr} {odp_law_rule anp_law_rule : Option Addr} {slp_law_rule : Array (Option Value)} {ocp_law_rule kVp_law_rule dcp_law_rule pmp_law_rule cdp_law_rule ctp_law_rule : Value}
    {fp_law_first : Addr} {odp_law_first anp_law_first : Option Addr} {slp_law_first : Array (Option Value)} {ocp_law_first kVp_law_first dcp_law_first pmp_law_first cdp_law_first ctp_law_first : Value}
    {fp_law_cells : Addr} {odp_law_cells anp_law_cells : Option Addr} {slp_law_cells : Array (Option Value)} {ocp_law_cells kVp_law_cells dcp_law_cells pmp_law_cells cdp_law_cells ctp_law_cells : Value}
    {fp_law_measured : Addr} {odp_law_measured anp_law_measured : Option Addr} {slp_law_measured : Array (Option Value)} {ocp_law_measured kVp_law_measured dcp_law_measured pmp_law_measured cdp_law_measured ctp_law_measured : Value}
    {fp_law_facts : Addr} {odp_law_facts anp_law_facts : Option Addr} {slp_law_facts : Array (Option Value)} {ocp_law_facts kVp_law_facts dcp_law_facts pmp_law_facts cdp_law_facts ctp_law_facts : Value}
    {fp_law_time : Addr} {odp_law_time anp_law_time : Option Addr} {slp_law_time : Array (Option Value)} {ocp_law_time kVp_law_time dcp_law_time pmp_law_time cdp_law_time ctp_law_time : Value}
    {fp_law_past : Addr} {odp_law_past anp_law_past : Option Addr} {slp_law_past : Array (Option Value)} {ocp_law_past kVp_law_past dcp_law_past pmp_law_past cdp_law_past ctp_law_past : Value}
    {flaw : Addr} {odlaw anlaw : Option Addr} {sllaw : Array (Option Value)} {oclaw kVlaw dclaw pmlaw cdlaw ctlaw : Value}
    {tCOUNT : Tok}
    {tFIRST : Tok}
    {tGREATEST : Tok}
    {tLAST : Tok}
    {tLEAST : Tok}
    {fMEASURES : Addr} {nMEASURES : Nat} {gMEASURES_0 gMEASURES_1 gMEASURES_2 gMEASURES_3 gMEASURES_4 gMEASURES_5 gMEASURES_6 : Tok}
    {tMOST_AGE : Tok}
    {tMOST_GRAIN : Tok}
    {tMOST_KEEPS : Tok}
    {tMOST_MOMENT : Tok}
    {tSQUARES : Tok}
    (ais_measure : PySem.W.nsIn K mainGlobals "is_measure" = some (some (.ref fis_measure)))
    (lis_measure : K.lookup fis_measure = some ⟨ocis_measure, odis_measure, .func (PySem.W.fnOf "is_measure" "is_measure" (defArgs s_is_measure) (defBody s_is_measure) (defScope s_is_measure) .none kVis_measure dcis_measure pmis_measure anis_measure cdis_measure ctis_measure), slis_measure⟩)
    (cis_measure : PySem.W.codeIn K cdis_measure "is_measure" = true)
    (kis_measure : PySem.W.keepIn K (.ref fis_measure) = true)
    (ais_int : PySem.W.nsIn K mainGlobals "is_int" = some (some (.ref fis_int)))
    (lis_int : K.lookup fis_int = some ⟨ocis_int, odis_int, .func (PySem.W.fnOf "is_int" "is_int" (defArgs s_is_int) (defBody s_is_int) (defScope s_is_int) .none kVis_int dcis_int pmis_int anis_int cdis_int ctis_int), slis_int⟩)
    (cis_int : PySem.W.codeIn K cdis_int "is_int" = true)
    (kis_int : PySem.W.keepIn K (.ref fis_int) = true)
    (ais_count : PySem.W.nsIn K mainGlobals "is_count" = some (some (.ref fis_count)))
    (lis_count : K.lookup fis_count = some ⟨ocis_count, odis_count, .func (PySem.W.fnOf "is_count" "is_count" (defArgs s_is_count) (defBody s_is_count) (defScope s_is_count) .none kVis_count dcis_count pmis_count anis_count cdis_count ctis_count), slis_count⟩)
    (cis_count : PySem.W.codeIn K cdis_count "is_count" = true)
    (kis_count : PySem.W.keepIn K (.ref fis_count) = true)
    (ais_int_within : PySem.W.nsIn K mainGlobals "is_int_within" = some (some (.ref fis_int_within)))
    (lis_int_within : K.lookup fis_int_within = some ⟨ocis_int_within, odis_int_within, .func (PySem.W.fnOf "is_int_within" "is_int_within" (defArgs s_is_int_within) (defBody s_is_int_within) (defScope s_is_int_within) .none kVis_int_within dcis_int_within pmis_int_within anis_int_within cdis_int_within ctis_int_within), slis_int_within⟩)
    (cis_int_within : PySem.W.codeIn K cdis_int_within "is_int_within" = true)
    (kis_int_within : PySem.W.keepIn K (.ref fis_int_within) = true)
    (ais_tuple_of : PySem.W.nsIn K mainGlobals "is_tuple_of" = some (some (.ref fis_tuple_of)))
    (lis_tuple_of : K.lookup fis_tuple_of = some ⟨ocis_tuple_of, odis_tuple_of, .func (PySem.W.fnOf "is_tuple_of" "is_tuple_of" (defArgs s_is_tuple_of) (defBody s_is_tuple_of) (defScope s_is_tuple_of) .none kVis_tuple_of dcis_tuple_of pmis_tuple_of anis_tuple_of cdis_tuple_of ctis_tuple_of), slis_tuple_of⟩)
    (cis_tuple_of : PySem.W.codeIn K cdis_tuple_of "is_tuple_of" = true)
    (kis_tuple_of : PySem.W.keepIn K (.ref fis_tuple_of) = true)
    (ais_point : PySem.W.nsIn K mainGlobals "is_point" = some (some (.ref fis_point)))
    (lis_point : K.lookup fis_point = some ⟨ocis_point, odis_point, .func (PySem.W.fnOf "is_point" "is_point" (defArgs s_is_point) (defBody s_is_point) (defScope s_is_point) .none kVis_point dcis_point pmis_point anis_point cdis_point ctis_point), slis_point⟩)
    (cis_point : PySem.W.codeIn K cdis_point "is_point" = true)
    (kis_point : PySem.W.keepIn K (.ref fis_point) = true)
    (aplace_of : PySem.W.nsIn K mainGlobals "place_of" = some (some (.ref fplace_of)))
    (lplace_of : K.lookup fplace_of = some ⟨ocplace_of, odplace_of, .func (PySem.W.fnOf "place_of" "place_of" (defArgs s_place_of) (defBody s_place_of) (defScope s_place_of) .none kVplace_of dcplace_of pmplace_of anplace_of cdplace_of ctplace_of), slplace_of⟩)
    (cplace_of : PySem.W.codeIn K cdplace_of "place_of" = true)
    (kplace_of : PySem.W.keepIn K (.ref fplace_of) = true)
    (ais_past : PySem.W.nsIn K mainGlobals "is_past" = some (some (.ref fis_past)))
    (lis_past : K.lookup fis_past = some ⟨ocis_past, odis_past, .func (PySem.W.fnOf "is_past" "is_past" (defArgs s_is_past) (defBody s_is_past) (defScope s_is_past) .none kVis_past dcis_past pmis_past anis_past cdis_past ctis_past), slis_past⟩)
    (cis_past : PySem.W.codeIn K cdis_past "is_past" = true)
    (kis_past : PySem.W.keepIn K (.ref fis_past) = true)
    (ais_past_up_to : PySem.W.nsIn K mainGlobals "is_past_up_to" = some (some (.ref fis_past_up_to)))
    (lis_past_up_to : K.lookup fis_past_up_to = some ⟨ocis_past_up_to, odis_past_up_to, .func (PySem.W.fnOf "is_past_up_to" "is_past_up_to" (defArgs s_is_past_up_to) (defBody s_is_past_up_to) (defScope s_is_past_up_to) .none kVis_past_up_to dcis_past_up_to pmis_past_up_to anis_past_up_to cdis_past_up_to ctis_past_up_to), slis_past_up_to⟩)
    (cis_past_up_to : PySem.W.codeIn K cdis_past_up_to "is_past_up_to" = true)
    (kis_past_up_to : PySem.W.keepIn K (.ref fis_past_up_to) = true)
    (acheck_past_up_to : PySem.W.nsIn K mainGlobals "check_past_up_to" = some (some (.ref fcheck_past_up_to)))
    (lcheck_past_up_to : K.lookup fcheck_past_up_to = some ⟨occheck_past_up_to, odcheck_past_up_to, .func (PySem.W.fnOf "check_past_up_to" "check_past_up_to" (defArgs s_check_past_up_to) (defBody s_check_past_up_to) (defScope s_check_past_up_to) .none kVcheck_past_up_to dccheck_past_up_to pmcheck_past_up_to ancheck_past_up_to cdcheck_past_up_to ctcheck_past_up_to), slcheck_past_up_to⟩)
    (ccheck_past_up_to : PySem.W.codeIn K cdcheck_past_up_to "check_past_up_to" = true)
    (kcheck_past_up_to : PySem.W.keepIn K (.ref fcheck_past_up_to) = true)
    (acount_of : PySem.W.nsIn K mainGlobals "count_of" = some (some (.ref fcount_of)))
    (lcount_of : K.lookup fcount_of = some ⟨occount_of, odcount_of, .func (PySem.W.fnOf "count_of" "count_of" (defArgs s_count_of) (defBody s_count_of) (defScope s_count_of) .none kVcount_of dccount_of pmcount_of ancount_of cdcount_of ctcount_of), slcount_of⟩)
    (ccount_of : PySem.W.codeIn K cdcount_of "count_of" = true)
    (kcount_of : PySem.W.keepIn K (.ref fcount_of) = true)
    (asum_of : PySem.W.nsIn K mainGlobals "sum_of" = some (some (.ref fsum_of)))
    (lsum_of : K.lookup fsum_of = some ⟨ocsum_of, odsum_of, .func (PySem.W.fnOf "sum_of" "sum_of" (defArgs s_sum_of) (defBody s_sum_of) (defScope s_sum_of) .none kVsum_of dcsum_of pmsum_of ansum_of cdsum_of ctsum_of), slsum_of⟩)
    (csum_of : PySem.W.codeIn K cdsum_of "sum_of" = true)
    (ksum_of : PySem.W.keepIn K (.ref fsum_of) = true)
    (asquares_of : PySem.W.nsIn K mainGlobals "squares_of" = some (some (.ref fsquares_of)))
    (lsquares_of : K.lookup fsquares_of = some ⟨ocsquares_of, odsquares_of, .func (PySem.W.fnOf "squares_of" "squares_of" (defArgs s_squares_of) (defBody s_squares_of) (defScope s_squares_of) .none kVsquares_of dcsquares_of pmsquares_of ansquares_of cdsquares_of ctsquares_of), slsquares_of⟩)
    (csquares_of : PySem.W.codeIn K cdsquares_of "squares_of" = true)
    (ksquares_of : PySem.W.keepIn K (.ref fsquares_of) = true)
    (aleast_of : PySem.W.nsIn K mainGlobals "least_of" = some (some (.ref fleast_of)))
    (lleast_of : K.lookup fleast_of = some ⟨ocleast_of, odleast_of, .func (PySem.W.fnOf "least_of" "least_of" (defArgs s_least_of) (defBody s_least_of) (defScope s_least_of) .none kVleast_of dcleast_of pmleast_of anleast_of cdleast_of ctleast_of), slleast_of⟩)
    (cleast_of : PySem.W.codeIn K cdleast_of "least_of" = true)
    (kleast_of : PySem.W.keepIn K (.ref fleast_of) = true)
    (agreatest_of : PySem.W.nsIn K mainGlobals "greatest_of" = some (some (.ref fgreatest_of)))
    (lgreatest_of : K.lookup fgreatest_of = some ⟨ocgreatest_of, odgreatest_of, .func (PySem.W.fnOf "greatest_of" "greatest_of" (defArgs s_greatest_of) (defBody s_greatest_of) (defScope s_greatest_of) .none kVgreatest_of dcgreatest_of pmgreatest_of angreatest_of cdgreatest_of ctgreatest_of), slgreatest_of⟩)
    (cgreatest_of : PySem.W.codeIn K cdgreatest_of "greatest_of" = true)
    (kgreatest_of : PySem.W.keepIn K (.ref fgreatest_of) = true)
    (afirst_of : PySem.W.nsIn K mainGlobals "first_of" = some (some (.ref ffirst_of)))
    (lfirst_of : K.lookup ffirst_of = some ⟨ocfirst_of, odfirst_of, .func (PySem.W.fnOf "first_of" "first_of" (defArgs s_first_of) (defBody s_first_of) (defScope s_first_of) .none kVfirst_of dcfirst_of pmfirst_of anfirst_of cdfirst_of ctfirst_of), slfirst_of⟩)
    (cfirst_of : PySem.W.codeIn K cdfirst_of "first_of" = true)
    (kfirst_of : PySem.W.keepIn K (.ref ffirst_of) = true)
    (alast_of : PySem.W.nsIn K mainGlobals "last_of" = some (some (.ref flast_of)))
    (llast_of : K.lookup flast_of = some ⟨oclast_of, odlast_of, .func (PySem.W.fnOf "last_of" "last_of" (defArgs s_last_of) (defBody s_last_of) (defScope s_last_of) .none kVlast_of dclast_of pmlast_of anlast_of cdlast_of ctlast_of), sllast_of⟩)
    (clast_of : PySem.W.codeIn K cdlast_of "last_of" = true)
    (klast_of : PySem.W.keepIn K (.ref flast_of) = true)
    (ameasured : PySem.W.nsIn K mainGlobals "measured" = some (some (.ref fmeasured)))
    (lmeasured : K.lookup fmeasured = some ⟨ocmeasured, odmeasured, .func (PySem.W.fnOf "measured" "measured" (defArgs s_measured) (defBody s_measured) (defScope s_measured) .none kVmeasured dcmeasured pmmeasured anmeasured cdmeasured ctmeasured), slmeasured⟩)
    (cmeasured : PySem.W.codeIn K cdmeasured "measured" = true)
    (kmeasured : PySem.W.keepIn K (.ref fmeasured) = true)
    (ais_moment : PySem.W.nsIn K mainGlobals "is_moment" = some (some (.ref fis_moment)))
    (lis_moment : K.lookup fis_moment = some ⟨ocis_moment, odis_moment, .func (PySem.W.fnOf "is_moment" "is_moment" (defArgs s_is_moment) (defBody s_is_moment) (defScope s_is_moment) .none kVis_moment dcis_moment pmis_moment anis_moment cdis_moment ctis_moment), slis_moment⟩)
    (cis_moment : PySem.W.codeIn K cdis_moment "is_moment" = true)
    (kis_moment : PySem.W.keepIn K (.ref fis_moment) = true)
    (ais_grain : PySem.W.nsIn K mainGlobals "is_grain" = some (some (.ref fis_grain)))
    (lis_grain : K.lookup fis_grain = some ⟨ocis_grain, odis_grain, .func (PySem.W.fnOf "is_grain" "is_grain" (defArgs s_is_grain) (defBody s_is_grain) (defScope s_is_grain) .none kVis_grain dcis_grain pmis_grain anis_grain cdis_grain ctis_grain), slis_grain⟩)
    (cis_grain : PySem.W.codeIn K cdis_grain "is_grain" = true)
    (kis_grain : PySem.W.keepIn K (.ref fis_grain) = true)
    (ais_age : PySem.W.nsIn K mainGlobals "is_age" = some (some (.ref fis_age)))
    (lis_age : K.lookup fis_age = some ⟨ocis_age, odis_age, .func (PySem.W.fnOf "is_age" "is_age" (defArgs s_is_age) (defBody s_is_age) (defScope s_is_age) .none kVis_age dcis_age pmis_age anis_age cdis_age ctis_age), slis_age⟩)
    (cis_age : PySem.W.codeIn K cdis_age "is_age" = true)
    (kis_age : PySem.W.keepIn K (.ref fis_age) = true)
    (ais_row_of_measures : PySem.W.nsIn K mainGlobals "is_row_of_measures" = some (some (.ref fis_row_of_measures)))
    (lis_row_of_measures : K.lookup fis_row_of_measures = some ⟨ocis_row_of_measures, odis_row_of_measures, .func (PySem.W.fnOf "is_row_of_measures" "is_row_of_measures" (defArgs s_is_row_of_measures) (defBody s_is_row_of_measures) (defScope s_is_row_of_measures) .none kVis_row_of_measures dcis_row_of_measures pmis_row_of_measures anis_row_of_measures cdis_row_of_measures ctis_row_of_measures), slis_row_of_measures⟩)
    (cis_row_of_measures : PySem.W.codeIn K cdis_row_of_measures "is_row_of_measures" = true)
    (kis_row_of_measures : PySem.W.keepIn K (.ref fis_row_of_measures) = true)
    (ais_keep : PySem.W.nsIn K mainGlobals "is_keep" = some (some (.ref fis_keep)))
    (lis_keep : K.lookup fis_keep = some ⟨ocis_keep, odis_keep, .func (PySem.W.fnOf "is_keep" "is_keep" (defArgs s_is_keep) (defBody s_is_keep) (defScope s_is_keep) .none kVis_keep dcis_keep pmis_keep anis_keep cdis_keep ctis_keep), slis_keep⟩)
    (cis_keep : PySem.W.codeIn K cdis_keep "is_keep" = true)
    (kis_keep : PySem.W.keepIn K (.ref fis_keep) = true)
    (ais_row_of_keeps : PySem.W.nsIn K mainGlobals "is_row_of_keeps" = some (some (.ref fis_row_of_keeps)))
    (lis_row_of_keeps : K.lookup fis_row_of_keeps = some ⟨ocis_row_of_keeps, odis_row_of_keeps, .func (PySem.W.fnOf "is_row_of_keeps" "is_row_of_keeps" (defArgs s_is_row_of_keeps) (defBody s_is_row_of_keeps) (defScope s_is_row_of_keeps) .none kVis_row_of_keeps dcis_row_of_keeps pmis_row_of_keeps anis_row_of_keeps cdis_row_of_keeps ctis_row_of_keeps), slis_row_of_keeps⟩)
    (cis_row_of_keeps : PySem.W.codeIn K cdis_row_of_keeps "is_row_of_keeps" = true)
    (kis_row_of_keeps : PySem.W.keepIn K (.ref fis_row_of_keeps) = true)
    (ais_rule : PySem.W.nsIn K mainGlobals "is_rule" = some (some (.ref fis_rule)))
    (lis_rule : K.lookup fis_rule = some ⟨ocis_rule, odis_rule, .func (PySem.W.fnOf "is_rule" "is_rule" (defArgs s_is_rule) (defBody s_is_rule) (defScope s_is_rule) .none kVis_rule dcis_rule pmis_rule anis_rule cdis_rule ctis_rule), slis_rule⟩)
    (cis_rule : PySem.W.codeIn K cdis_rule "is_rule" = true)
    (kis_rule : PySem.W.keepIn K (.ref fis_rule) = true)
    (acheck_rule : PySem.W.nsIn K mainGlobals "check_rule" = some (some (.ref fcheck_rule)))
    (lcheck_rule : K.lookup fcheck_rule = some ⟨occheck_rule, odcheck_rule, .func (PySem.W.fnOf "check_rule" "check_rule" (defArgs s_check_rule) (defBody s_check_rule) (defScope s_check_rule) .none kVcheck_rule dccheck_rule pmcheck_rule ancheck_rule cdcheck_rule ctcheck_rule), slcheck_rule⟩)
    (ccheck_rule : PySem.W.codeIn K cdcheck_rule "check_rule" = true)
    (kcheck_rule : PySem.W.keepIn K (.ref fcheck_rule) = true)
    (acheck_moment : PySem.W.nsIn K mainGlobals "check_moment" = some (some (.ref fcheck_moment)))
    (lcheck_moment : K.lookup fcheck_moment = some ⟨occheck_moment, odcheck_moment, .func (PySem.W.fnOf "check_moment" "check_moment" (defArgs s_check_moment) (defBody s_check_moment) (defScope s_check_moment) .none kVcheck_moment dccheck_moment pmcheck_moment ancheck_moment cdcheck_moment ctcheck_moment), slcheck_moment⟩)
    (ccheck_moment : PySem.W.codeIn K cdcheck_moment "check_moment" = true)
    (kcheck_moment : PySem.W.keepIn K (.ref fcheck_moment) = true)
    (afirst_time : PySem.W.nsIn K mainGlobals "first_time" = some (some (.ref ffirst_time)))
    (lfirst_time : K.lookup ffirst_time = some ⟨ocfirst_time, odfirst_time, .func (PySem.W.fnOf "first_time" "first_time" (defArgs s_first_time) (defBody s_first_time) (defScope s_first_time) .none kVfirst_time dcfirst_time pmfirst_time anfirst_time cdfirst_time ctfirst_time), slfirst_time⟩)
    (cfirst_time : PySem.W.codeIn K cdfirst_time "first_time" = true)
    (kfirst_time : PySem.W.keepIn K (.ref ffirst_time) = true)
    (afirst_cell : PySem.W.nsIn K mainGlobals "first_cell" = some (some (.ref ffirst_cell)))
    (lfirst_cell : K.lookup ffirst_cell = some ⟨ocfirst_cell, odfirst_cell, .func (PySem.W.fnOf "first_cell" "first_cell" (defArgs s_first_cell) (defBody s_first_cell) (defScope s_first_cell) .none kVfirst_cell dcfirst_cell pmfirst_cell anfirst_cell cdfirst_cell ctfirst_cell), slfirst_cell⟩)
    (cfirst_cell : PySem.W.codeIn K cdfirst_cell "first_cell" = true)
    (kfirst_cell : PySem.W.keepIn K (.ref ffirst_cell) = true)
    (alast_cell : PySem.W.nsIn K mainGlobals "last_cell" = some (some (.ref flast_cell)))
    (llast_cell : K.lookup flast_cell = some ⟨oclast_cell, odlast_cell, .func (PySem.W.fnOf "last_cell" "last_cell" (defArgs s_last_cell) (defBody s_last_cell) (defScope s_last_cell) .none kVlast_cell dclast_cell pmlast_cell anlast_cell cdlast_cell ctlast_cell), sllast_cell⟩)
    (clast_cell : PySem.W.codeIn K cdlast_cell "last_cell" = true)
    (klast_cell : PySem.W.keepIn K (.ref flast_cell) = true)
    (acell_numbers : PySem.W.nsIn K mainGlobals "cell_numbers" = some (some (.ref fcell_numbers)))
    (lcell_numbers : K.lookup fcell_numbers = some ⟨occell_numbers, odcell_numbers, .func (PySem.W.fnOf "cell_numbers" "cell_numbers" (defArgs s_cell_numbers) (defBody s_cell_numbers) (defScope s_cell_numbers) .none kVcell_numbers dccell_numbers pmcell_numbers ancell_numbers cdcell_numbers ctcell_numbers), slcell_numbers⟩)
    (ccell_numbers : PySem.W.codeIn K cdcell_numbers "cell_numbers" = true)
    (kcell_numbers : PySem.W.keepIn K (.ref fcell_numbers) = true)
    (acells : PySem.W.nsIn K mainGlobals "cells" = some (some (.ref fcells)))
    (lcells : K.lookup fcells = some ⟨occells, odcells, .func (PySem.W.fnOf "cells" "cells" (defArgs s_cells) (defBody s_cells) (defScope s_cells) .none kVcells dccells pmcells ancells cdcells ctcells), slcells⟩)
    (ccells : PySem.W.codeIn K cdcells "cells" = true)
    (kcells : PySem.W.keepIn K (.ref fcells) = true)
    (apoints_left : PySem.W.nsIn K mainGlobals "points_left" = some (some (.ref fpoints_left)))
    (lpoints_left : K.lookup fpoints_left = some ⟨ocpoints_left, odpoints_left, .func (PySem.W.fnOf "points_left" "points_left" (defArgs s_points_left) (defBody s_points_left) (defScope s_points_left) .none kVpoints_left dcpoints_left pmpoints_left anpoints_left cdpoints_left ctpoints_left), slpoints_left⟩)
    (cpoints_left : PySem.W.codeIn K cdpoints_left "points_left" = true)
    (kpoints_left : PySem.W.keepIn K (.ref fpoints_left) = true)
    (apoints_by_cell : PySem.W.nsIn K mainGlobals "points_by_cell" = some (some (.ref fpoints_by_cell)))
    (lpoints_by_cell : K.lookup fpoints_by_cell = some ⟨ocpoints_by_cell, odpoints_by_cell, .func (PySem.W.fnOf "points_by_cell" "points_by_cell" (defArgs s_points_by_cell) (defBody s_points_by_cell) (defScope s_points_by_cell) .none kVpoints_by_cell dcpoints_by_cell pmpoints_by_cell anpoints_by_cell cdpoints_by_cell ctpoints_by_cell), slpoints_by_cell⟩)
    (cpoints_by_cell : PySem.W.codeIn K cdpoints_by_cell "points_by_cell" = true)
    (kpoints_by_cell : PySem.W.keepIn K (.ref fpoints_by_cell) = true)
    (afacts_of_cell : PySem.W.nsIn K mainGlobals "facts_of_cell" = some (some (.ref ffacts_of_cell)))
    (lfacts_of_cell : K.lookup ffacts_of_cell = some ⟨ocfacts_of_cell, odfacts_of_cell, .func (PySem.W.fnOf "facts_of_cell" "facts_of_cell" (defArgs s_facts_of_cell) (defBody s_facts_of_cell) (defScope s_facts_of_cell) .none kVfacts_of_cell dcfacts_of_cell pmfacts_of_cell anfacts_of_cell cdfacts_of_cell ctfacts_of_cell), slfacts_of_cell⟩)
    (cfacts_of_cell : PySem.W.codeIn K cdfacts_of_cell "facts_of_cell" = true)
    (kfacts_of_cell : PySem.W.keepIn K (.ref ffacts_of_cell) = true)
    (afacts_of_keep : PySem.W.nsIn K mainGlobals "facts_of_keep" = some (some (.ref ffacts_of_keep)))
    (lfacts_of_keep : K.lookup ffacts_of_keep = some ⟨ocfacts_of_keep, odfacts_of_keep, .func (PySem.W.fnOf "facts_of_keep" "facts_of_keep" (defArgs s_facts_of_keep) (defBody s_facts_of_keep) (defScope s_facts_of_keep) .none kVfacts_of_keep dcfacts_of_keep pmfacts_of_keep anfacts_of_keep cdfacts_of_keep ctfacts_of_keep), slfacts_of_keep⟩)
    (cfacts_of_keep : PySem.W.codeIn K cdfacts_of_keep "facts_of_keep" = true)
    (kfacts_of_keep : PySem.W.keepIn K (.ref ffacts_of_keep) = true)
    (aleft : PySem.W.nsIn K mainGlobals "left" = some (some (.ref fleft)))
    (lleft : K.lookup fleft = some ⟨ocleft, odleft, .func (PySem.W.fnOf "left" "left" (defArgs s_left) (defBody s_left) (defScope s_left) .none kVleft dcleft pmleft anleft cdleft ctleft), slleft⟩)
    (cleft : PySem.W.codeIn K cdleft "left" = true)
    (kleft : PySem.W.keepIn K (.ref fleft) = true)
    (ap_law_deck : PySem.W.nsIn K mainGlobals "_law_deck" = some (some (.ref fp_law_deck)))
    (lp_law_deck : K.lookup fp_law_deck = some ⟨ocp_law_deck, odp_law_deck, .func (PySem.W.fnOf "_law_deck" "_law_deck" (defArgs s_p_law_deck) (defBody s_p_law_deck) (defScope s_p_law_deck) .none kVp_law_deck dcp_law_deck pmp_law_deck anp_law_deck cdp_law_deck ctp_law_deck), slp_law_deck⟩)
    (cp_law_deck : PySem.W.codeIn K cdp_law_deck "_law_deck" = true)
    (kp_law_deck : PySem.W.keepIn K (.ref fp_law_deck) = true)
    (ap_law_draw : PySem.W.nsIn K mainGlobals "_law_draw" = some (some (.ref fp_law_draw)))
    (lp_law_draw : K.lookup fp_law_draw = some ⟨ocp_law_draw, odp_law_draw, .func (PySem.W.fnOf "_law_draw" "_law_draw" (defArgs s_p_law_draw) (defBody s_p_law_draw) (defScope s_p_law_draw) .none kVp_law_draw dcp_law_draw pmp_law_draw anp_law_draw cdp_law_draw ctp_law_draw), slp_law_draw⟩)
    (cp_law_draw : PySem.W.codeIn K cdp_law_draw "_law_draw" = true)
    (kp_law_draw : PySem.W.keepIn K (.ref fp_law_draw) = true)
    (ap_law_pick : PySem.W.nsIn K mainGlobals "_law_pick" = some (some (.ref fp_law_pick)))
    (lp_law_pick : K.lookup fp_law_pick = some ⟨ocp_law_pick, odp_law_pick, .func (PySem.W.fnOf "_law_pick" "_law_pick" (defArgs s_p_law_pick) (defBody s_p_law_pick) (defScope s_p_law_pick) .none kVp_law_pick dcp_law_pick pmp_law_pick anp_law_pick cdp_law_pick ctp_law_pick), slp_law_pick⟩)
    (cp_law_pick : PySem.W.codeIn K cdp_law_pick "_law_pick" = true)
    (kp_law_pick : PySem.W.keepIn K (.ref fp_law_pick) = true)
    (ap_law_names : PySem.W.nsIn K mainGlobals "_law_names" = some (some (.ref fp_law_names)))
    (lp_law_names : K.lookup fp_law_names = some ⟨ocp_law_names, odp_law_names, .func (PySem.W.fnOf "_law_names" "_law_names" (defArgs s_p_law_names) (defBody s_p_law_names) (defScope s_p_law_names) .none kVp_law_names dcp_law_names pmp_law_names anp_law_names cdp_law_names ctp_law_names), slp_law_names⟩)
    (cp_law_names : PySem.W.codeIn K cdp_law_names "_law_names" = true)
    (kp_law_names : PySem.W.keepIn K (.ref fp_law_names) = true)
    (ap_law_measures : PySem.W.nsIn K mainGlobals "_law_measures" = some (some (.ref fp_law_measures)))
    (lp_law_measures : K.lookup fp_law_measures = some ⟨ocp_law_measures, odp_law_measures, .func (PySem.W.fnOf "_law_measures" "_law_measures" (defArgs s_p_law_measures) (defBody s_p_law_measures) (defScope s_p_law_measures) .none kVp_law_measures dcp_law_measures pmp_law_measures anp_law_measures cdp_law_measures ctp_law_measures), slp_law_measures⟩)
    (cp_law_measures : PySem.W.codeIn K cdp_law_measures "_law_measures" = true)
    (kp_law_measures : PySem.W.keepIn K (.ref fp_law_measures) = true)
    (ap_law_int : PySem.W.nsIn K mainGlobals "_law_int" = some (some (.ref fp_law_int)))
    (lp_law_int : K.lookup fp_law_int = some ⟨ocp_law_int, odp_law_int, .func (PySem.W.fnOf "_law_int" "_law_int" (defArgs s_p_law_int) (defBody s_p_law_int) (defScope s_p_law_int) .none kVp_law_int dcp_law_int pmp_law_int anp_law_int cdp_law_int ctp_law_int), slp_law_int⟩)
    (cp_law_int : PySem.W.codeIn K cdp_law_int "_law_int" = true)
    (kp_law_int : PySem.W.keepIn K (.ref fp_law_int) = true)
    (ap_law_same : PySem.W.nsIn K mainGlobals "_law_same" = some (some (.ref fp_law_same)))
    (lp_law_same : K.lookup fp_law_same = some ⟨ocp_law_same, odp_law_same, .func (PySem.W.fnOf "_law_same" "_law_same" (defArgs s_p_law_same) (defBody s_p_law_same) (defScope s_p_law_same) .none kVp_law_same dcp_law_same pmp_law_same anp_law_same cdp_law_same ctp_law_same), slp_law_same⟩)
    (cp_law_same : PySem.W.codeIn K cdp_law_same "_law_same" = true)
    (kp_law_same : PySem.W.keepIn K (.ref fp_law_same) = true)
    (ap_law_rule : PySem.W.nsIn K mainGlobals "_law_rule" = some (some (.ref fp_law_rule)))
    (lp_law_rule : K.lookup fp_law_rule = some ⟨ocp_law_rule, odp_law_rule, .func (PySem.W.fnOf "_law_rule" "_law_rule" (defArgs s_p_law_rule) (defBody s_p_law_rule) (defScope s_p_law_rule) .none kVp_law_rule dcp_law_rule pmp_law_rule anp_law_rule cdp_law_rule ctp_law_rule), slp_law_rule⟩)
    (cp_law_rule : PySem.W.codeIn K cdp_law_rule "_law_rule" = true)
    (kp_law_rule : PySem.W.keepIn K (.ref fp_law_rule) = true)
    (ap_law_first : PySem.W.nsIn K mainGlobals "_law_first" = some (some (.ref fp_law_first)))
    (lp_law_first : K.lookup fp_law_first = some ⟨ocp_law_first, odp_law_first, .func (PySem.W.fnOf "_law_first" "_law_first" (defArgs s_p_law_first) (defBody s_p_law_first) (defScope s_p_law_first) .none kVp_law_first dcp_law_first pmp_law_first anp_law_first cdp_law_first ctp_law_first), slp_law_first⟩)
    (cp_law_first : PySem.W.codeIn K cdp_law_first "_law_first" = true)
    (kp_law_first : PySem.W.keepIn K (.ref fp_law_first) = true)
    (ap_law_cells : PySem.W.nsIn K mainGlobals "_law_cells" = some (some (.ref fp_law_cells)))
    (lp_law_cells : K.lookup fp_law_cells = some ⟨ocp_law_cells, odp_law_cells, .func (PySem.W.fnOf "_law_cells" "_law_cells" (defArgs s_p_law_cells) (defBody s_p_law_cells) (defScope s_p_law_cells) .none kVp_law_cells dcp_law_cells pmp_law_cells anp_law_cells cdp_law_cells ctp_law_cells), slp_law_cells⟩)
    (cp_law_cells : PySem.W.codeIn K cdp_law_cells "_law_cells" = true)
    (kp_law_cells : PySem.W.keepIn K (.ref fp_law_cells) = true)
    (ap_law_measured : PySem.W.nsIn K mainGlobals "_law_measured" = some (some (.ref fp_law_measured)))
    (lp_law_measured : K.lookup fp_law_measured = some ⟨ocp_law_measured, odp_law_measured, .func (PySem.W.fnOf "_law_measured" "_law_measured" (defArgs s_p_law_measured) (defBody s_p_law_measured) (defScope s_p_law_measured) .none kVp_law_measured dcp_law_measured pmp_law_measured anp_law_measured cdp_law_measured ctp_law_measured), slp_law_measured⟩)
    (cp_law_measured : PySem.W.codeIn K cdp_law_measured "_law_measured" = true)
    (kp_law_measured : PySem.W.keepIn K (.ref fp_law_measured) = true)
    (ap_law_facts : PySem.W.nsIn K mainGlobals "_law_facts" = some (some (.ref fp_law_facts)))
    (lp_law_facts : K.lookup fp_law_facts = some ⟨ocp_law_facts, odp_law_facts, .func (PySem.W.fnOf "_law_facts" "_law_facts" (defArgs s_p_law_facts) (defBody s_p_law_facts) (defScope s_p_law_facts) .none kVp_law_facts dcp_law_facts pmp_law_facts anp_law_facts cdp_law_facts ctp_law_facts), slp_law_facts⟩)
    (cp_law_facts : PySem.W.codeIn K cdp_law_facts "_law_facts" = true)
    (kp_law_facts : PySem.W.keepIn K (.ref fp_law_facts) = true)
    (ap_law_time : PySem.W.nsIn K mainGlobals "_law_time" = some (some (.ref fp_law_time)))
    (lp_law_time : K.lookup fp_law_time = some ⟨ocp_law_time, odp_law_time, .func (PySem.W.fnOf "_law_time" "_law_time" (defArgs s_p_law_time) (defBody s_p_law_time) (defScope s_p_law_time) .none kVp_law_time dcp_law_time pmp_law_time anp_law_time cdp_law_time ctp_law_time), slp_law_time⟩)
    (cp_law_time : PySem.W.codeIn K cdp_law_time "_law_time" = true)
    (kp_law_time : PySem.W.keepIn K (.ref fp_law_time) = true)
    (ap_law_past : PySem.W.nsIn K mainGlobals "_law_past" = some (some (.ref fp_law_past)))
    (lp_law_past : K.lookup fp_law_past = some ⟨ocp_law_past, odp_law_past, .func (PySem.W.fnOf "_law_past" "_law_past" (defArgs s_p_law_past) (defBody s_p_law_past) (defScope s_p_law_past) .none kVp_law_past dcp_law_past pmp_law_past anp_law_past cdp_law_past ctp_law_past), slp_law_past⟩)
    (cp_law_past : PySem.W.codeIn K cdp_law_past "_law_past" = true)
    (kp_law_past : PySem.W.keepIn K (.ref fp_law_past) = true)
    (alaw : PySem.W.nsIn K mainGlobals "law" = some (some (.ref flaw)))
    (llaw : K.lookup flaw = some ⟨oclaw, odlaw, .func (PySem.W.fnOf "law" "law" (defArgs s_law) (defBody s_law) (defScope s_law) .none kVlaw dclaw pmlaw anlaw cdlaw ctlaw), sllaw⟩)
    (claw : PySem.W.codeIn K cdlaw "law" = true)
    (klaw : PySem.W.keepIn K (.ref flaw) = true)
    (zall : PySem.W.nsIn K mainGlobals "all" = some none)
    (zbool : PySem.W.nsIn K mainGlobals "bool" = some none)
    (zenumerate : PySem.W.nsIn K mainGlobals "enumerate" = some none)
    (zint : PySem.W.nsIn K mainGlobals "int" = some none)
    (zisinstance : PySem.W.nsIn K mainGlobals "isinstance" = some none)
    (zlen : PySem.W.nsIn K mainGlobals "len" = some none)
    (zlist : PySem.W.nsIn K mainGlobals "list" = some none)
    (zmax : PySem.W.nsIn K mainGlobals "max" = some none)
    (zmin : PySem.W.nsIn K mainGlobals "min" = some none)
    (zrange : PySem.W.nsIn K mainGlobals "range" = some none)
    (zsorted : PySem.W.nsIn K mainGlobals "sorted" = some none)
    (zstr : PySem.W.nsIn K mainGlobals "str" = some none)
    (zsum : PySem.W.nsIn K mainGlobals "sum" = some none)
    (ztuple : PySem.W.nsIn K mainGlobals "tuple" = some none)
    (aCOUNT : PySem.W.nsIn K mainGlobals "COUNT" = some (some (.str "count" tCOUNT)))
    (aFIRST : PySem.W.nsIn K mainGlobals "FIRST" = some (some (.str "first" tFIRST)))
    (aGREATEST : PySem.W.nsIn K mainGlobals "GREATEST" = some (some (.str "greatest" tGREATEST)))
    (aLAST : PySem.W.nsIn K mainGlobals "LAST" = some (some (.str "last" tLAST)))
    (aLEAST : PySem.W.nsIn K mainGlobals "LEAST" = some (some (.str "least" tLEAST)))
    (aMEASURES : PySem.W.nsIn K mainGlobals "MEASURES" = some (some (.ref fMEASURES)))
    (lMEASURES : K.lookup fMEASURES = some ⟨.type "tuple", none, .seq #[Value.str "count" gMEASURES_0, Value.str "first" gMEASURES_1, Value.str "greatest" gMEASURES_2, Value.str "last" gMEASURES_3, Value.str "least" gMEASURES_4, Value.str "squares" gMEASURES_5, Value.str "sum" gMEASURES_6] nMEASURES, #[]⟩)
    (aMOST_AGE : PySem.W.nsIn K mainGlobals "MOST_AGE" = some (some (.int 10000 tMOST_AGE)))
    (aMOST_GRAIN : PySem.W.nsIn K mainGlobals "MOST_GRAIN" = some (some (.int 1000 tMOST_GRAIN)))
    (aMOST_KEEPS : PySem.W.nsIn K mainGlobals "MOST_KEEPS" = some (some (.int 6 tMOST_KEEPS)))
    (aMOST_MOMENT : PySem.W.nsIn K mainGlobals "MOST_MOMENT" = some (some (.int 100000 tMOST_MOMENT)))
    (aSQUARES : PySem.W.nsIn K mainGlobals "SQUARES" = some (some (.str "squares" tSQUARES))) :
    ∃ fd : FuncData, (∀ (s : Shared) (v : Value), BindsTo s fd ⟨[v], []⟩ [("script", v)]) ∧ ∀ base : Heap, K.In base → base.Ns mainGlobals mg → FnOk l.prog w K mg base CX0 9 fa fd ["script"] (spLaw K) := by
  have e : flaw = fa := by
    have e := (PySem.W.mg_of X G alaw).symm.trans hfa
    injection e with e
    injection e
  subst e
  letI : Wd := ⟨w⟩
  let T : Txt K Wd.w mg := ⟨(fis_measure), (PySem.W.fnOf "is_measure" "is_measure" (defArgs s_is_measure) (defBody s_is_measure) (defScope s_is_measure) .none kVis_measure dcis_measure pmis_measure anis_measure cdis_measure ctis_measure), (fun_mk lis_measure cis_measure kis_measure), (PySem.W.mg_of X G ais_measure), (fis_int), (PySem.W.fnOf "is_int" "is_int" (defArgs s_is_int) (defBody s_is_int) (defScope s_is_int) .none kVis_int dcis_int pmis_int anis_int cdis_int ctis_int), (fun_mk lis_int cis_int kis_int), (PySem.W.mg_of X G ais_int), (fis_count), (PySem.W.fnOf "is_count" "is_count" (defArgs s_is_count) (defBody s_is_count) (defScope s_is_count) .none kVis_count dcis_count pmis_count anis_count cdis_count ctis_count), (fun_mk lis_count cis_count kis_count), (PySem.W.mg_of X G ais_count), (fis_int_within), (PySem.W.fnOf "is_int_within" "is_int_within" (defArgs s_is_int_within) (defBody s_is_int_within) (defScope s_is_int_within) .none kVis_int_within dcis_int_within pmis_int_within anis_int_within cdis_int_within ctis_int_within), (fun_mk lis_int_within cis_int_within kis_int_within), (PySem.W.mg_of X G ais_int_within), (fis_tuple_of), (PySem.W.fnOf "is_tuple_of" "is_tuple_of" (defArgs s_is_tuple_of) (defBody s_is_tuple_of) (defScope s_is_tuple_of) .none kVis_tuple_of dcis_tuple_of pmis_tuple_of anis_tuple_of cdis_tuple_of ctis_tuple_of), (fun_mk lis_tuple_of cis_tuple_of kis_tuple_of), (PySem.W.mg_of X G ais_tuple_of), (fis_point), (PySem.W.fnOf "is_point" "is_point" (defArgs s_is_point) (defBody s_is_point) (defScope s_is_point) .none kVis_point dcis_point pmis_point anis_point cdis_point ctis_point), (fun_mk lis_point cis_point kis_point), (PySem.W.mg_of X G ais_point), (fplace_of), (PySem.W.fnOf "place_of" "place_of" (defArgs s_place_of) (defBody s_place_of) (defScope s_place_of) .none kVplace_of dcplace_of pmplace_of anplace_of cdplace_of ctplace_of), (fun_mk lplace_of cplace_of kplace_of), (PySem.W.mg_of X G aplace_of), (fis_past), (PySem.W.fnOf "is_past" "is_past" (defArgs s_is_past) (defBody s_is_past) (defScope s_is_past) .none kVis_past dcis_past pmis_past anis_past cdis_past ctis_past), (fun_mk lis_past cis_past kis_past), (PySem.W.mg_of X G ais_past), (fis_past_up_to), (PySem.W.fnOf "is_past_up_to" "is_past_up_to" (defArgs s_is_past_up_to) (defBody s_is_past_up_to) (defScope s_is_past_up_to) .none kVis_past_up_to dcis_past_up_to pmis_past_up_to anis_past_up_to cdis_past_up_to ctis_past_up_to), (fun_mk lis_past_up_to cis_past_up_to kis_past_up_to), (PySem.W.mg_of X G ais_past_up_to), (fcheck_past_up_to), (PySem.W.fnOf "check_past_up_to" "check_past_up_to" (defArgs s_check_past_up_to) (defBody s_check_past_up_to) (defScope s_check_past_up_to) .none kVcheck_past_up_to dccheck_past_up_to pmcheck_past_up_to ancheck_past_up_to cdcheck_past_up_to ctcheck_past_up_to), (fun_mk lcheck_past_up_to ccheck_past_up_to kcheck_past_up_to), (PySem.W.mg_of X G acheck_past_up_to), (fcount_of), (PySem.W.fnOf "count_of" "count_of" (defArgs s_count_of) (defBody s_count_of) (defScope s_count_of) .none kVcount_of dccount_of pmcount_of ancount_of cdcount_of ctcount_of), (fun_mk lcount_of ccount_of kcount_of), (PySem.W.mg_of X G acount_of), (fsum_of), (PySem.W.fnOf "sum_of" "sum_of" (defArgs s_sum_of) (defBody s_sum_of) (defScope s_sum_of) .none kVsum_of dcsum_of pmsum_of ansum_of cdsum_of ctsum_of), (fun_mk lsum_of csum_of ksum_of), (PySem.W.mg_of X G asum_of), (fsquares_of), (PySem.W.fnOf "squares_of" "squares_of" (defArgs s_squares_of) (defBody s_squares_of) (defScope s_squares_of) .none kVsquares_of dcsquares_of pmsquares_of ansquares_of cdsquares_of ctsquares_of), (fun_mk lsquares_of csquares_of ksquares_of), (PySem.W.mg_of X G asquares_of), (fleast_of), (PySem.W.fnOf "least_of" "least_of" (defArgs s_least_of) (defBody s_least_of) (defScope s_least_of) .none kVleast_of dcleast_of pmleast_of anleast_of cdleast_of ctleast_of), (fun_mk lleast_of cleast_of kleast_of), (PySem.W.mg_of X G aleast_of), (fgreatest_of), (PySem.W.fnOf "greatest_of" "greatest_of" (defArgs s_greatest_of) (defBody s_greatest_of) (defScope s_greatest_of) .none kVgreatest_of dcgreatest_of pmgreatest_of angreatest_of cdgreatest_of ctgreatest_of), (fun_mk lgreatest_of cgreatest_of kgreatest_of), (PySem.W.mg_of X G agreatest_of), (ffirst_of), (PySem.W.fnOf "first_of" "first_of" (defArgs s_first_of) (defBody s_first_of) (defScope s_first_of) .none kVfirst_of dcfirst_of pmfirst_of anfirst_of cdfirst_of ctfirst_of), (fun_mk lfirst_of cfirst_of kfirst_of), (PySem.W.mg_of X G afirst_of), (flast_of), (PySem.W.fnOf "last_of" "last_of" (defArgs s_last_of) (defBody s_last_of) (defScope s_last_of) .none kVlast_of dclast_of pmlast_of anlast_of cdlast_of ctlast_of), (fun_mk llast_of clast_of klast_of), (PySem.W.mg_of X G alast_of), (fmeasured), (PySem.W.fnOf "measured" "measured" (defArgs s_measured) (defBody s_measured) (defScope s_measured) .none kVmeasured dcmeasured pmmeasured anmeasured cdmeasured ctmeasured), (fun_mk lmeasured cmeasured kmeasured), (PySem.W.mg_of X G ameasured), (fis_moment), (PySem.W.fnOf "is_moment" "is_moment" (defArgs s_is_moment) (defBody s_is_moment) (defScope s_is_moment) .none kVis_moment dcis_moment pmis_moment anis_moment cdis_moment ctis_moment), (fun_mk lis_moment cis_moment kis_moment), (PySem.W.mg_of X G ais_moment), (fis_grain), (PySem.W.fnOf "is_grain" "is_grain" (defArgs s_is_grain) (defBody s_is_grain) (defScope s_is_grain) .none kVis_grain dcis_grain pmis_grain anis_grain cdis_grain ctis_grain), (fun_mk lis_grain cis_grain kis_grain), (PySem.W.mg_of X G ais_grain), (fis_age), (PySem.W.fnOf "is_age" "is_age" (defArgs s_is_age) (defBody s_is_age) (defScope s_is_age) .none kVis_age dcis_age pmis_age anis_age cdis_age ctis_age), (fun_mk lis_age cis_age kis_age), (PySem.W.mg_of X G ais_age), (fis_row_of_measures), (PySem.W.fnOf "is_row_of_measures" "is_row_of_measures" (defArgs s_is_row_of_measures) (defBody s_is_row_of_measures) (defScope s_is_row_of_measures) .none kVis_row_of_measures dcis_row_of_measures pmis_row_of_measures anis_row_of_measures cdis_row_of_measures ctis_row_of_measures), (fun_mk lis_row_of_measures cis_row_of_measures kis_row_of_measures), (PySem.W.mg_of X G ais_row_of_measures), (fis_keep), (PySem.W.fnOf "is_keep" "is_keep" (defArgs s_is_keep) (defBody s_is_keep) (defScope s_is_keep) .none kVis_keep dcis_keep pmis_keep anis_keep cdis_keep ctis_keep), (fun_mk lis_keep cis_keep kis_keep), (PySem.W.mg_of X G ais_keep), (fis_row_of_keeps), (PySem.W.fnOf "is_row_of_keeps" "is_row_of_keeps" (defArgs s_is_row_of_keeps) (defBody s_is_row_of_keeps) (defScope s_is_row_of_keeps) .none kVis_row_of_keeps dcis_row_of_keeps pmis_row_of_keeps anis_row_of_keeps cdis_row_of_keeps ctis_row_of_keeps), (fun_mk lis_row_of_keeps cis_row_of_keeps kis_row_of_keeps), (PySem.W.mg_of X G ais_row_of_keeps), (fis_rule), (PySem.W.fnOf "is_rule" "is_rule" (defArgs s_is_rule) (defBody s_is_rule) (defScope s_is_rule) .none kVis_rule dcis_rule pmis_rule anis_rule cdis_rule ctis_rule), (fun_mk lis_rule cis_rule kis_rule), (PySem.W.mg_of X G ais_rule), (fcheck_rule), (PySem.W.fnOf "check_rule" "check_rule" (defArgs s_check_rule) (defBody s_check_rule) (defScope s_check_rule) .none kVcheck_rule dccheck_rule pmcheck_rule ancheck_rule cdcheck_rule ctcheck_rule), (fun_mk lcheck_rule ccheck_rule kcheck_rule), (PySem.W.mg_of X G acheck_rule), (fcheck_moment), (PySem.W.fnOf "check_moment" "check_moment" (defArgs s_check_moment) (defBody s_check_moment) (defScope s_check_moment) .none kVcheck_moment dccheck_moment pmcheck_moment ancheck_moment cdcheck_moment ctcheck_moment), (fun_mk lcheck_moment ccheck_moment kcheck_moment), (PySem.W.mg_of X G acheck_moment), (ffirst_time), (PySem.W.fnOf "first_time" "first_time" (defArgs s_first_time) (defBody s_first_time) (defScope s_first_time) .none kVfirst_time dcfirst_time pmfirst_time anfirst_time cdfirst_time ctfirst_time), (fun_mk lfirst_time cfirst_time kfirst_time), (PySem.W.mg_of X G afirst_time), (ffirst_cell), (PySem.W.fnOf "first_cell" "first_cell" (defArgs s_first_cell) (defBody s_first_cell) (defScope s_first_cell) .none kVfirst_cell dcfirst_cell pmfirst_cell anfirst_cell cdfirst_cell ctfirst_cell), (fun_mk lfirst_cell cfirst_cell kfirst_cell), (PySem.W.mg_of X G afirst_cell), (flast_cell), (PySem.W.fnOf "last_cell" "last_cell" (defArgs s_last_cell) (defBody s_last_cell) (defScope s_last_cell) .none kVlast_cell dclast_cell pmlast_cell anlast_cell cdlast_cell ctlast_cell), (fun_mk llast_cell clast_cell klast_cell), (PySem.W.mg_of X G alast_cell), (fcell_numbers), (PySem.W.fnOf "cell_numbers" "cell_numbers" (defArgs s_cell_numbers) (defBody s_cell_numbers) (defScope s_cell_numbers) .none kVcell_numbers dccell_numbers pmcell_numbers ancell_numbers cdcell_numbers ctcell_numbers), (fun_mk lcell_numbers ccell_numbers kcell_numbers), (PySem.W.mg_of X G acell_numbers), (fcells), (PySem.W.fnOf "cells" "cells" (defArgs s_cells) (defBody s_cells) (defScope s_cells) .none kVcells dccells pmcells ancells cdcells ctcells), (fun_mk lcells ccells kcells), (PySem.W.mg_of X G acells), (fpoints_left), (PySem.W.fnOf "points_left" "points_left" (defArgs s_points_left) (defBody s_points_left) (defScope s_points_left) .none kVpoints_left dcpoints_left pmpoints_left anpoints_left cdpoints_left ctpoints_left), (fun_mk lpoints_left cpoints_left kpoints_left), (PySem.W.mg_of X G apoints_left), (fpoints_by_cell), (PySem.W.fnOf "points_by_cell" "points_by_cell" (defArgs s_points_by_cell) (defBody s_points_by_cell) (defScope s_points_by_cell) .none kVpoints_by_cell dcpoints_by_cell pmpoints_by_cell anpoints_by_cell cdpoints_by_cell ctpoints_by_cell), (fun_mk lpoints_by_cell cpoints_by_cell kpoints_by_cell), (PySem.W.mg_of X G apoints_by_cell), (ffacts_of_cell), (PySem.W.fnOf "facts_of_cell" "facts_of_cell" (defArgs s_facts_of_cell) (defBody s_facts_of_cell) (defScope s_facts_of_cell) .none kVfacts_of_cell dcfacts_of_cell pmfacts_of_cell anfacts_of_cell cdfacts_of_cell ctfacts_of_cell), (fun_mk lfacts_of_cell cfacts_of_cell kfacts_of_cell), (PySem.W.mg_of X G afacts_of_cell), (ffacts_of_keep), (PySem.W.fnOf "facts_of_keep" "facts_of_keep" (defArgs s_facts_of_keep) (defBody s_facts_of_keep) (defScope s_facts_of_keep) .none kVfacts_of_keep dcfacts_of_keep pmfacts_of_keep anfacts_of_keep cdfacts_of_keep ctfacts_of_keep), (fun_mk lfacts_of_keep cfacts_of_keep kfacts_of_keep), (PySem.W.mg_of X G afacts_of_keep), (fleft), (PySem.W.fnOf "left" "left" (defArgs s_left) (defBody s_left) (defScope s_left) .none kVleft dcleft pmleft anleft cdleft ctleft), (fun_mk lleft cleft kleft), (PySem.W.mg_of X G aleft), (fp_law_deck), (PySem.W.fnOf "_law_deck" "_law_deck" (defArgs s_p_law_deck) (defBody s_p_law_deck) (defScope s_p_law_deck) .none kVp_law_deck dcp_law_deck pmp_law_deck anp_law_deck cdp_law_deck ctp_law_deck), (fun_mk lp_law_deck cp_law_deck kp_law_deck), (PySem.W.mg_of X G ap_law_deck), (fp_law_draw), (PySem.W.fnOf "_law_draw" "_law_draw" (defArgs s_p_law_draw) (defBody s_p_law_draw) (defScope s_p_law_draw) .none kVp_law_draw dcp_law_draw pmp_law_draw anp_law_draw cdp_law_draw ctp_law_draw), (fun_mk lp_law_draw cp_law_draw kp_law_draw), (PySem.W.mg_of X G ap_law_draw), (fp_law_pick), (PySem.W.fnOf "_law_pick" "_law_pick" (defArgs s_p_law_pick) (defBody s_p_law_pick) (defScope s_p_law_pick) .none kVp_law_pick dcp_law_pick pmp_law_pick anp_law_pick cdp_law_pick ctp_law_pick), (fun_mk lp_law_pick cp_law_pick kp_law_pick), (PySem.W.mg_of X G ap_law_pick), (fp_law_names), (PySem.W.fnOf "_law_names" "_law_names" (defArgs s_p_law_names) (defBody s_p_law_names) (defScope s_p_law_names) .none kVp_law_names dcp_law_names pmp_law_names anp_law_names cdp_law_names ctp_law_names), (fun_mk lp_law_names cp_law_names kp_law_names), (PySem.W.mg_of X G ap_law_names), (fp_law_measures), (PySem.W.fnOf "_law_measures" "_law_measures" (defArgs s_p_law_measures) (defBody s_p_law_measures) (defScope s_p_law_measures) .none kVp_law_measures dcp_law_measures pmp_law_measures anp_law_measures cdp_law_measures ctp_law_measures), (fun_mk lp_law_measures cp_law_measures kp_law_measures), (PySem.W.mg_of X G ap_law_measures), (fp_law_int), (PySem.W.fnOf "_law_int" "_law_int" (defArgs s_p_law_int) (defBody s_p_law_int) (defScope s_p_law_int) .none kVp_law_int dcp_law_int pmp_law_int anp_law_int cdp_law_int ctp_law_int), (fun_mk lp_law_int cp_law_int kp_law_int), (PySem.W.mg_of X G ap_law_int), (fp_law_same), (PySem.W.fnOf "_law_same" "_law_same" (defArgs s_p_law_same) (defBody s_p_law_same) (defScope s_p_law_same) .none kVp_law_same dcp_law_same pmp_law_same anp_law_same cdp_law_same ctp_law_same), (fun_mk lp_law_same cp_law_same kp_law_same), (PySem.W.mg_of X G ap_law_same), (fp_law_rule), (PySem.W.fnOf "_law_rule" "_law_rule" (defArgs s_p_law_rule) (defBody s_p_law_rule) (defScope s_p_law_rule) .none kVp_law_rule dcp_law_rule pmp_law_rule anp_law_rule cdp_law_rule ctp_law_rule), (fun_mk lp_law_rule cp_law_rule kp_law_rule), (PySem.W.mg_of X G ap_law_rule), (fp_law_first), (PySem.W.fnOf "_law_first" "_law_first" (defArgs s_p_law_first) (defBody s_p_law_first) (defScope s_p_law_first) .none kVp_law_first dcp_law_first pmp_law_first anp_law_first cdp_law_first ctp_law_first), (fun_mk lp_law_first cp_law_first kp_law_first), (PySem.W.mg_of X G ap_law_first), (fp_law_cells), (PySem.W.fnOf "_law_cells" "_law_cells" (defArgs s_p_law_cells) (defBody s_p_law_cells) (defScope s_p_law_cells) .none kVp_law_cells dcp_law_cells pmp_law_cells anp_law_cells cdp_law_cells ctp_law_cells), (fun_mk lp_law_cells cp_law_cells kp_law_cells), (PySem.W.mg_of X G ap_law_cells), (fp_law_measured), (PySem.W.fnOf "_law_measured" "_law_measured" (defArgs s_p_law_measured) (defBody s_p_law_measured) (defScope s_p_law_measured) .none kVp_law_measured dcp_law_measured pmp_law_measured anp_law_measured cdp_law_measured ctp_law_measured), (fun_mk lp_law_measured cp_law_measured kp_law_measured), (PySem.W.mg_of X G ap_law_measured), (fp_law_facts), (PySem.W.fnOf "_law_facts" "_law_facts" (defArgs s_p_law_facts) (defBody s_p_law_facts) (defScope s_p_law_facts) .none kVp_law_facts dcp_law_facts pmp_law_facts anp_law_facts cdp_law_facts ctp_law_facts), (fun_mk lp_law_facts cp_law_facts kp_law_facts), (PySem.W.mg_of X G ap_law_facts), (fp_law_time), (PySem.W.fnOf "_law_time" "_law_time" (defArgs s_p_law_time) (defBody s_p_law_time) (defScope s_p_law_time) .none kVp_law_time dcp_law_time pmp_law_time anp_law_time cdp_law_time ctp_law_time), (fun_mk lp_law_time cp_law_time kp_law_time), (PySem.W.mg_of X G ap_law_time), (fp_law_past), (PySem.W.fnOf "_law_past" "_law_past" (defArgs s_p_law_past) (defBody s_p_law_past) (defScope s_p_law_past) .none kVp_law_past dcp_law_past pmp_law_past anp_law_past cdp_law_past ctp_law_past), (fun_mk lp_law_past cp_law_past kp_law_past), (PySem.W.mg_of X G ap_law_past), (flaw), (PySem.W.fnOf "law" "law" (defArgs s_law) (defBody s_law) (defScope s_law) .none kVlaw dclaw pmlaw anlaw cdlaw ctlaw), (fun_mk llaw claw klaw), (PySem.W.mg_of X G alaw), (PySem.W.mg_none_of X G zall), (PySem.W.mg_none_of X G zbool), (PySem.W.mg_none_of X G zenumerate), (PySem.W.mg_none_of X G zint), (PySem.W.mg_none_of X G zisinstance), (PySem.W.mg_none_of X G zlen), (PySem.W.mg_none_of X G zlist), (PySem.W.mg_none_of X G zmax), (PySem.W.mg_none_of X G zmin), (PySem.W.mg_none_of X G zrange), (PySem.W.mg_none_of X G zsorted), (PySem.W.mg_none_of X G zstr), (PySem.W.mg_none_of X G zsum), (PySem.W.mg_none_of X G ztuple), (tCOUNT), (PySem.W.mg_of X G aCOUNT), (tFIRST), (PySem.W.mg_of X G aFIRST), (tGREATEST), (PySem.W.mg_of X G aGREATEST), (tLAST), (PySem.W.mg_of X G aLAST), (tLEAST), (PySem.W.mg_of X G aLEAST), (fMEASURES), (PySem.W.mg_of X G aMEASURES), (fun G => ⟨_, [V.str "count", V.str "first", V.str "greatest", V.str "last", V.str "least", V.str "squares", V.str "sum"], rfl, .inr ⟨_, _, _, lMEASURES, rfl, rfl, (by show 7 ≤ sizeLine; decide), .cons ⟨_, rfl⟩ (.cons ⟨_, rfl⟩ (.cons ⟨_, rfl⟩ (.cons ⟨_, rfl⟩ (.cons ⟨_, rfl⟩ (.cons ⟨_, rfl⟩ (.cons ⟨_, rfl⟩ (.nil)))))))⟩, ⟨_, _, rfl, rfl, ⟨_, _, rfl, rfl, ⟨_, _, rfl, rfl, ⟨_, _, rfl, rfl, ⟨_, _, rfl, rfl, ⟨_, _, rfl, rfl, ⟨_, _, rfl, rfl, rfl⟩⟩⟩⟩⟩⟩⟩⟩), (tMOST_AGE), (PySem.W.mg_of X G aMOST_AGE), (tMOST_GRAIN), (PySem.W.mg_of X G aMOST_GRAIN), (tMOST_KEEPS), (PySem.W.mg_of X G aMOST_KEEPS), (tMOST_MOMENT), (PySem.W.mg_of X G aMOST_MOMENT), (tSQUARES), (PySem.W.mg_of X G aSQUARES)⟩
  exact ⟨T.law_fd, fun s v => .of_eq rfl, fun base _ _ => law_of (ok_law T) law_true⟩
end K20
open PySem PySem.W PyProof.Rows L2 DL
set_option maxHeartbeats 0 in
theorem PySem.Challenge.cw_stillanswered_k20_cells_and_what_is_left_holds : PySem.Challenge.rw_stillanswered_k20_cells_and_what_is_left.Holds := by
  w_on; o_law; k_head; (case hw => w_witness2)
  k_fill
  refine L2.walk_of (l := PySem.Challenge.rw_stillanswered_k20_cells_and_what_is_left) (n := 63) (k := 9) (x := "script") (CX := fun _ => L2.CX0) (sp := fun w => DL.spLaw _) rfl (by decide) rfl ⟨rfl, by decide, by decide⟩ (fun w h Y => PySem.W.kIn_of Y) ?F (fun _ _ a ns hl _ hS => ⟨a, ns, rfl, hS, hl, fun _ => rfl⟩) (fun _ _ _ _ _ h => h)
  case F =>
    intro w mg fa h KX G hmg
    refine' K20.all_mk KX G hmg ?ais_measure ?lis_measure ?cis_measure ?kis_measure ?ais_int ?lis_int ?cis_int ?kis_int ?ais_count ?lis_count ?cis_count ?kis_count ?ais_int_within ?lis_int_within ?cis_int_within ?kis_int_within ?ais_tuple_of ?lis_tuple_of ?cis_tuple_of ?kis_tuple_of ?ais_point ?lis_point ?cis_point ?kis_point ?aplace_of ?lplace_of ?cplace_of ?kplace_of ?ais_past ?lis_past ?cis_past ?kis_past ?ais_past_up_to ?lis_past_up_to ?cis_past_up_to ?kis_past_up_to ?acheck_past_up_to ?lcheck_past_up_to ?ccheck_past_up_to ?kcheck_past_up_to ?acount_of ?lcount_of ?ccount_of ?kcount_of ?asum_of ?lsum_of ?csum_of ?ksum_of ?asquares_of ?lsquares_of ?csquares_of ?ksquares_of ?aleast_of ?lleast_of ?cleast_of ?kleast_of ?agreatest_of ?lgreatest_of ?cgreatest_of ?kgreatest_of ?afirst_of ?lfirst_of ?cfirst_of ?kfirst_of ?alast_of ?llast_of ?clast_of ?klast_of ?ameasured ?lmeasured ?cmeasured ?kmeasured ?ais_moment ?lis_moment ?cis_moment ?kis_moment ?ais_grain ?lis_grain ?cis_grain ?kis_grain ?ais_age ?lis_age ?cis_age ?kis_age ?ais_row_of_measures ?lis_row_of_measures ?cis_row_of_measures ?kis_row_of_measures ?ais_keep ?lis_keep ?cis_keep ?kis_keep ?ais_row_of_keeps ?lis_row_of_keeps ?cis_row_of_keeps ?kis_row_of_keeps ?ais_rule ?lis_rule ?cis_rule ?kis_rule ?acheck_rule ?lcheck_rule ?ccheck_rule ?kcheck_rule ?acheck_moment ?lcheck_moment ?ccheck_moment ?kcheck_moment ?afirst_time ?lfirst_time ?cfirst_time ?kfirst_time ?afirst_cell ?lfirst_cell ?cfirst_cell ?kfirst_cell ?alast_cell ?llast_cell ?clast_cell ?klast_cell ?acell_numbers ?lcell_numbers ?ccell_numbers ?kcell_numbers ?acells ?lcells ?ccells ?kcells ?apoints_left ?lpoints_left ?cpoints_left ?kpoints_left ?apoints_by_cell ?lpoints_by_cell ?cpoints_by_cell ?kpoints_by_cell ?afacts_of_cell ?lfacts_of_cell ?cfacts_of_cell ?kfacts_of_cell ?afacts_of_keep ?lfacts_of_keep ?cfacts_of_keep ?kfacts_of_keep ?aleft ?lleft ?cleft ?kleft ?ap_law_deck ?lp_law_deck ?cp_law_deck ?kp_law_deck ?ap_law_draw ?lp_law_draw ?cp_law_draw ?kp_law_draw ?ap_law_pick ?lp_law_pick ?cp_law_pick ?kp_law_pick ?ap_law_names ?lp_law_names ?cp_law_names ?kp_law_names ?ap_law_measures ?lp_law_measures ?cp_law_measures ?kp_law_measures ?ap_law_int ?lp_law_int ?cp_law_int ?kp_law_int ?ap_law_same ?lp_law_same ?cp_law_same ?kp_law_same ?ap_law_rule ?lp_law_rule ?cp_law_rule ?kp_law_rule ?ap_law_first ?lp_law_first ?cp_law_first ?kp_law_first ?ap_law_cells ?lp_law_cells ?cp_law_cells ?kp_law_cells ?ap_law_measured ?lp_law_measured ?cp_law_measured ?kp_law_measured ?ap_law_facts ?lp_law_facts ?cp_law_facts ?kp_law_facts ?ap_law_time ?lp_law_time ?cp_law_time ?kp_law_time ?ap_law_past ?lp_law_past ?cp_law_past ?kp_law_past ?alaw ?llaw ?claw ?klaw ?zall ?zbool ?zenumerate ?zint ?zisinstance ?zlen ?zlist ?zmax ?zmin ?zrange ?zsorted ?zstr ?zsum ?ztuple ?aCOUNT ?aFIRST ?aGREATEST ?aLAST ?aLEAST ?aMEASURES ?lMEASURES ?aMOST_AGE ?aMOST_GRAIN ?aMOST_KEEPS ?aMOST_MOMENT ?aSQUARES
    (case ais_measure => k_is)
    (case lis_measure => k_is)
    (case cis_measure => k_is)
    (case kis_measure => k_is)
    (case ais_int => k_is)
    (case lis_int => k_is)
    (case cis_int => k_is)
    (case kis_int => k_is)
    (case ais_count => k_is)
    (case lis_count => k_is)
    (case cis_count => k_is)
    (case kis_count => k_is)
    (case ais_int_within => k_is)
    (case lis_int_within => k_is)
    (case cis_int_within => k_is)
    (case kis_int_within => k_is)
    (case ais_tuple_of => k_is)
    (case lis_tuple_of => k_is)
    (case cis_tuple_of => k_is)
    (case kis_tuple_of => k_is)
    (case ais_point => k_is)
    (case lis_point => k_is)
    (case cis_point => k_is)
    (case kis_point => k_is)
    (case aplace_of => k_is)
    (case lplace_of => k_is)
    (case cplace_of => k_is)
    (case kplace_of => k_is)
    (case ais_past => k_is)
    (case lis_past => k_is)
    (case cis_past => k_is)
    (case kis_past => k_is)
    (case ais_past_up_to => k_is)
    (case lis_past_up_to => k_is)
    (case cis_past_up_to => k_is)
    (case kis_past_up_to => k_is)
    (case acheck_past_up_to => k_is)
    (case lcheck_past_up_to => k_is)
    (case ccheck_past_up_to => k_is)
    (case kcheck_past_up_to => k_is)
    (case acount_of => k_is)
    (case lcount_of => k_is)
    (case ccount_of => k_is)
    (case kcount_of => k_is)
    (case asum_of => k_is)
    (case lsum_of => k_is)
    (case csum_of => k_is)
    (case ksum_of => k_is)
    (case asquares_of => k_is)
    (case lsquares_of => k_is)
    (case csquares_of => k_is)
    (case ksquares_of => k_is)
    (case aleast_of => k_is)
    (case lleast_of => k_is)
    (case cleast_of => k_is)
    (case kleast_of => k_is)
    (case agreatest_of => k_is)
    (case lgreatest_of => k_is)
    (case cgreatest_of => k_is)
    (case kgreatest_of => k_is)
    (case afirst_of => k_is)
    (case lfirst_of => k_is)
    (case cfirst_of => k_is)
    (case kfirst_of => k_is)
    (case alast_of => k_is)
    (case llast_of => k_is)
    (case clast_of => k_is)
    (case klast_of => k_is)
    (case ameasured => k_is)
    (case lmeasured => k_is)
    (case cmeasured => k_is)
    (case kmeasured => k_is)
    (case ais_moment => k_is)
    (case lis_moment => k_is)
    (case cis_moment => k_is)
    (case kis_moment => k_is)
    (case ais_grain => k_is)
    (case lis_grain => k_is)
    (case cis_grain => k_is)
    (case kis_grain => k_is)
    (case ais_age => k_is)
    (case lis_age => k_is)
    (case cis_age => k_is)
    (case kis_age => k_is)
    (case ais_row_of_measures => k_is)
    (case lis_row_of_measures => k_is)
    (case cis_row_of_measures => k_is)
    (case kis_row_of_measures => k_is)
    (case ais_keep => k_is)
    (case lis_keep => k_is)
    (case cis_keep => k_is)
    (case kis_keep => k_is)
    (case ais_row_of_keeps => k_is)
    (case lis_row_of_keeps => k_is)
    (case cis_row_of_keeps => k_is)
    (case kis_row_of_keeps => k_is)
    (case ais_rule => k_is)
    (case lis_rule => k_is)
    (case cis_rule => k_is)
    (case kis_rule => k_is)
    (case acheck_rule => k_is)
    (case lcheck_rule => k_is)
    (case ccheck_rule => k_is)
    (case kcheck_rule => k_is)
    (case acheck_moment => k_is)
    (case lcheck_moment => k_is)
    (case ccheck_moment => k_is)
    (case kcheck_moment => k_is)
    (case afirst_time => k_is)
    (case lfirst_time => k_is)
    (case cfirst_time => k_is)
    (case kfirst_time => k_is)
    (case afirst_cell => k_is)
    (case lfirst_cell => k_is)
    (case cfirst_cell => k_is)
    (case kfirst_cell => k_is)
    (case alast_cell => k_is)
    (case llast_cell => k_is)
    (case clast_cell => k_is)
    (case klast_cell => k_is)
    (case acell_numbers => k_is)
    (case lcell_numbers => k_is)
    (case ccell_numbers => k_is)
    (case kcell_numbers => k_is)
    (case acells => k_is)
    (case lcells => k_is)
    (case ccells => k_is)
    (case kcells => k_is)
    (case apoints_left => k_is)
    (case lpoints_left => k_is)
    (case cpoints_left => k_is)
    (case kpoints_left => k_is)
    (case apoints_by_cell => k_is)
    (case lpoints_by_cell => k_is)
    (case cpoints_by_cell => k_is)
    (case kpoints_by_cell => k_is)
    (case afacts_of_cell => k_is)
    (case lfacts_of_cell => k_is)
    (case cfacts_of_cell => k_is)
    (case kfacts_of_cell => k_is)
    (case afacts_of_keep => k_is)
    (case lfacts_of_keep => k_is)
    (case cfacts_of_keep => k_is)
    (case kfacts_of_keep => k_is)
    (case aleft => k_is)
    (case lleft => k_is)
    (case cleft => k_is)
    (case kleft => k_is)
    (case ap_law_deck => k_is)
    (case lp_law_deck => k_is)
    (case cp_law_deck => k_is)
    (case kp_law_deck => k_is)
    (case ap_law_draw => k_is)
    (case lp_law_draw => k_is)
    (case cp_law_draw => k_is)
    (case kp_law_draw => k_is)
    (case ap_law_pick => k_is)
    (case lp_law_pick => k_is)
    (case cp_law_pick => k_is)
    (case kp_law_pick => k_is)
    (case ap_law_names => k_is)
    (case lp_law_names => k_is)
    (case cp_law_names => k_is)
    (case kp_law_names => k_is)
    (case ap_law_measures => k_is)
    (case lp_law_measures => k_is)
    (case cp_law_measures => k_is)
    (case kp_law_measures => k_is)
    (case ap_law_int => k_is)
    (case lp_law_int => k_is)
    (case cp_law_int => k_is)
    (case kp_law_int => k_is)
    (case ap_law_same => k_is)
    (case lp_law_same => k_is)
    (case cp_law_same => k_is)
    (case kp_law_same => k_is)
    (case ap_law_rule => k_is)
    (case lp_law_rule => k_is)
    (case cp_law_rule => k_is)
    (case kp_law_rule => k_is)
    (case ap_law_first => k_is)
    (case lp_law_first => k_is)
    (case cp_law_first => k_is)
    (case kp_law_first => k_is)
    (case ap_law_cells => k_is)
    (case lp_law_cells => k_is)
    (case cp_law_cells => k_is)
    (case kp_law_cells => k_is)
    (case ap_law_measured => k_is)
    (case lp_law_measured => k_is)
    (case cp_law_measured => k_is)
    (case kp_law_measured => k_is)
    (case ap_law_facts => k_is)
    (case lp_law_facts => k_is)
    (case cp_law_facts => k_is)
    (case kp_law_facts => k_is)
    (case ap_law_time => k_is)
    (case lp_law_time => k_is)
    (case cp_law_time => k_is)
    (case kp_law_time => k_is)
    (case ap_law_past => k_is)
    (case lp_law_past => k_is)
    (case cp_law_past => k_is)
    (case kp_law_past => k_is)
    (case alaw => k_is)
    (case llaw => k_is)
    (case claw => k_is)
    (case klaw => k_is)
    (case zall => k_is)
    (case zbool => k_is)
    (case zenumerate => k_is)
    (case zint => k_is)
    (case zisinstance => k_is)
    (case zlen => k_is)
    (case zlist => k_is)
    (case zmax => k_is)
    (case zmin => k_is)
    (case zrange => k_is)
    (case zsorted => k_is)
    (case zstr => k_is)
    (case zsum => k_is)
    (case ztuple => k_is)
    (case aCOUNT => k_is)
    (case aFIRST => k_is)
    (case aGREATEST => k_is)
    (case aLAST => k_is)
    (case aLEAST => k_is)
    (case aMEASURES => k_is)
    (case lMEASURES => k_is)
    (case aMOST_AGE => k_is)
    (case aMOST_GRAIN => k_is)
    (case aMOST_KEEPS => k_is)
    (case aMOST_MOMENT => k_is)
    (case aSQUARES => k_is)
