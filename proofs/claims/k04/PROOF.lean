import PyProof.Rows.All
import HandS.ForMost
import KE.DataEq
import KE.DataCmp
import KE.SortData
import HandS.Wide
import HandS.TupAny
import HandS.IsInst
import HandS.Codes
import HandS.Gcd
import HandS.Defaults
import HandS.Strs
import HandS.More
import HandS.Text
import PySem.Challenge.RW_stillanswered_k04_fits
set_option Elab.async false
set_option linter.all false
set_option maxRecDepth 100000
/-! DL1: Python's values as plain trees; the state of a frame over them; the lifting of weakest preconditions over trees to the readings of the hand layer. -/
namespace DL
open PySem PySem.Spec PyProof.Rows L2

/-- the object of a drawing machine: a list of a list of ints (at c) and three ints -/
def Dlr (a c : Addr) : Heap → Prop := fun h => ∃ (p g m : Int) (t1 t2 t3 : Tok) (n : Nat), 0 ≤ p ∧ 0 ≤ g ∧ 0 ≤ m ∧ m < 2147483647 ∧
  h.get? a = some { cls := .type "list", data := .seq (([.ref c, .int p t1, .int g t2, .int m t3] : List Value).toArray) n }

inductive D where
  | non | bl (b : Bool) | int (i : Int) | str (x : Str) | ty (n : String) | ref (a : Addr)
  | tup (ds : List D) | lst (ds : List D) | dic (ks : List Key) (ds : List D) | dit (ks : List (List Key)) (ds : List D) | dlr

mutual
/-- v is the tree d, over the objects G that never change -/
def DV (K : PySem.W.Frag) (G : Hp) : D → V → Prop
  | .non, v => v = .non
  | .bl b, v => v = .bl b
  | .int i, v => v = .int i
  | .str x, v => v = .str x
  | .ty n, v => v = .ty n
  | .ref a, v => v = .ref a
  | .tup ds, v => ∃ a xs, v = .ref a ∧ SqT K G a xs ∧ DVs K G ds xs
  | .lst ds, v => ∃ a xs, v = .ref a ∧ SqL K G a xs ∧ DVs K G ds xs
  | .dic ks ds, v => ∃ a xs, v = .ref a ∧ Rd G a (.dK (ks.zip xs)) ∧ ks.length = xs.length ∧ DVs K G ds xs
  | .dit ks ds, v => ∃ a xs, v = .ref a ∧ Rd G a (.dT (ks.zip xs)) ∧ ks.length = xs.length ∧ DVs K G ds xs
  | .dlr, v => ∃ a c, ∃ ns : List Int, v = .ref a ∧ G a = some (.ext (Dlr a c)) ∧ SqL K G c (ns.map V.int) ∧ ns.length ≤ 63
def DVs (K : PySem.W.Frag) (G : Hp) : List D → List V → Prop
  | [], xs => xs = []
  | d :: ds, xs => ∃ x r, xs = x :: r ∧ DV K G d x ∧ DVs K G ds r
end

theorem same_t {K : PySem.W.Frag} {H H' : Hp} {a : Addr} {xs : List V} (e : Same H H') (h : SqT K H a xs) : SqT K H' a xs := by
  rcases h with (h | ⟨o, h⟩) | h
  · exact .inl (.inl (e _ _ h))
  · exact .inl (.inr ⟨o, e _ _ h⟩)
  · exact .inr h

theorem same_rd {H H' : Hp} {a : Addr} {u : HO} (e : Same H H') (h : Rd H a u) : Rd H' a u := by
  rcases h with h | ⟨o, h⟩
  · exact .inl (e _ _ h)
  · exact .inr ⟨o, e _ _ h⟩

mutual
theorem DV.mono {K : PySem.W.Frag} {G G' : Hp} (e : Same G G') : ∀ {d : D} {v : V}, DV K G d v → DV K G' d v
  | .non, _, h => h
  | .bl _, _, h => h
  | .int _, _, h => h
  | .str _, _, h => h
  | .ty _, _, h => h
  | .ref _, _, h => h
  | .tup _, _, ⟨a, xs, h1, h2, h3⟩ => ⟨a, xs, h1, same_t e h2, DVs.mono e h3⟩
  | .lst _, _, ⟨a, xs, h1, h2, h3⟩ => ⟨a, xs, h1, e.seq h2, DVs.mono e h3⟩
  | .dic _ _, _, ⟨a, xs, h1, h2, h3, h4⟩ => ⟨a, xs, h1, same_rd e h2, h3, DVs.mono e h4⟩
  | .dit _ _, _, ⟨a, xs, h1, h2, h3, h4⟩ => ⟨a, xs, h1, same_rd e h2, h3, DVs.mono e h4⟩
  | .dlr, _, ⟨a, c, ns, h1, h2, h3, h4⟩ => ⟨a, c, ns, h1, e _ _ h2, e.seq h3, h4⟩
theorem DVs.mono {K : PySem.W.Frag} {G G' : Hp} (e : Same G G') : ∀ {ds : List D} {vs : List V}, DVs K G ds vs → DVs K G' ds vs
  | [], _, h => h
  | _ :: _, _, ⟨x, r, h1, h2, h3⟩ => ⟨x, r, h1, DV.mono e h2, DVs.mono e h3⟩
end
section
variable {K : PySem.W.Frag} {G : Hp}
theorem DVs.len : ∀ {ds : List D} {vs : List V}, DVs K G ds vs → ds.length = vs.length
  | [], _, h => by have h : _ = [] := h; subst h; rfl
  | _ :: _, _, ⟨x, r, h1, h2, h3⟩ => by subst h1; simp [DVs.len h3]
theorem DVs.app : ∀ {ds es : List D} {vs us : List V}, DVs K G ds vs → DVs K G es us → DVs K G (ds ++ es) (vs ++ us)
  | [], _, _, _, h, h' => by have h : _ = [] := h; subst h; exact h'
  | _ :: _, _, _, _, ⟨x, r, h1, h2, h3⟩, h' => by subst h1; exact ⟨x, r ++ _, rfl, h2, DVs.app h3 h'⟩
theorem DVs.one {d : D} {v : V} (h : DV K G d v) : DVs K G [d] [v] := ⟨v, [], rfl, h, rfl⟩
theorem DVs.get : ∀ {ds : List D} {vs : List V} {i : Nat} {d : D}, DVs K G ds vs → ds[i]? = some d → ∃ v, vs[i]? = some v ∧ DV K G d v
  | [], _, _, _, _, h => by simp at h
  | _ :: _, _, 0, _, ⟨x, r, h1, h2, h3⟩, h => by
    subst h1
    have e := Option.some.inj h
    subst e
    exact ⟨x, rfl, h2⟩
  | _ :: _, _, i + 1, _, ⟨x, r, h1, h2, h3⟩, h => by
    subst h1
    exact DVs.get (i := i) h3 (by simpa using h)
theorem DVs.get' : ∀ {ds : List D} {vs : List V} {i : Nat} {v : V}, DVs K G ds vs → vs[i]? = some v → ∃ d, ds[i]? = some d ∧ DV K G d v
  | [], _, _, _, h, h' => by have h : _ = [] := h; subst h; simp at h'
  | _ :: _, _, 0, _, ⟨x, r, h1, h2, h3⟩, h => by
    subst h1
    have e := Option.some.inj h
    subst e
    exact ⟨_, rfl, h2⟩
  | _ :: _, _, i + 1, _, ⟨x, r, h1, h2, h3⟩, h => by
    subst h1
    exact DVs.get' (i := i) h3 (by simpa using h)
theorem DVs.drop : ∀ {ds : List D} {vs : List V} (n : Nat), DVs K G ds vs → DVs K G (ds.drop n) (vs.drop n)
  | _, _, 0, h => h
  | [], _, n + 1, h => by have h : _ = [] := h; subst h; exact rfl
  | _ :: _, _, n + 1, ⟨x, r, h1, h2, h3⟩ => by subst h1; exact DVs.drop n h3
theorem DVs.take : ∀ {ds : List D} {vs : List V} (n : Nat), DVs K G ds vs → DVs K G (ds.take n) (vs.take n)
  | _, _, 0, h => rfl
  | [], _, n + 1, h => by have h : _ = [] := h; subst h; exact rfl
  | _ :: _, _, n + 1, ⟨x, r, h1, h2, h3⟩ => by subst h1; exact ⟨x, _, rfl, h2, DVs.take n h3⟩
theorem DVs.set : ∀ {ds : List D} {vs : List V} {d : D} {v : V} (n : Nat), DVs K G ds vs → DV K G d v → DVs K G (ds.set n d) (vs.set n v)
  | [], _, _, _, _, h, _ => by have h : _ = [] := h; subst h; exact rfl
  | _ :: _, _, _, _, 0, ⟨x, r, h1, h2, h3⟩, h => by subst h1; exact ⟨_, _, rfl, h, h3⟩
  | _ :: _, _, _, _, n + 1, ⟨x, r, h1, h2, h3⟩, h => by subst h1; exact ⟨_, _, rfl, h2, DVs.set n h3 h⟩
theorem DVs.rev : ∀ {ds : List D} {vs : List V}, DVs K G ds vs → DVs K G ds.reverse vs.reverse
  | [], _, h => by have h : _ = [] := h; subst h; exact rfl
  | _ :: _, _, ⟨x, r, h1, h2, h3⟩ => by
    subst h1
    rw [List.reverse_cons, List.reverse_cons]
    exact DVs.app (DVs.rev h3) (DVs.one h2)
theorem DVs.ints : ∀ {ns : List Int} {vs : List V}, DVs K G (ns.map D.int) vs → vs = ns.map V.int
  | [], _, h => h
  | n :: ns, _, ⟨x, r, h1, h2, h3⟩ => by
    have h2 : x = .int n := h2
    have := DVs.ints h3
    rw [h1, h2, this]
    rfl
theorem DVs.ofInts : ∀ {ns : List Int}, DVs K G (ns.map D.int) (ns.map V.int)
  | [] => rfl
  | n :: ns => ⟨.int n, _, rfl, rfl, DVs.ofInts⟩
theorem DVs.strs : ∀ {ns : List Str} {vs : List V}, DVs K G (ns.map D.str) vs → vs = ns.map V.str
  | [], _, h => h
  | n :: ns, _, ⟨x, r, h1, h2, h3⟩ => by
    have h2 : x = .str n := h2
    have := DVs.strs h3
    rw [h1, h2, this]
    rfl
theorem DVs.ofStrs : ∀ {ns : List Str}, DVs K G (ns.map D.str) (ns.map V.str)
  | [] => rfl
  | n :: ns => ⟨.str n, _, rfl, rfl, DVs.ofStrs⟩
end

/-- what a frame's slot holds: nothing known, a tree, a list or dict of the frame's own; b i (of an expression's value): the list or dict that slot i owns -/
inductive Sl where
  | no | d (d : D) | l (ds : List D) | k (ks : List Key) (ds : List D) | t (ks : List (List Key)) (ds : List D) | b (i : Nat)
def Sl.own : Sl → Bool
  | .l _ => true
  | .k _ _ => true
  | .t _ _ => true
  | _ => false
/-- a mutable object that is known by its address -/
inductive Ob where
  | ins (C dx : Addr) (fs : List Str) (ds : List D) | sl (x : Sl)
abbrev Mu := Addr → Option Ob
structure S where
  ρ : List Sl
  μ : Mu
def get : List Sl → Nat → Sl
  | [], _ => .no
  | x :: _, 0 => x
  | _ :: r, n + 1 => get r n
def put : List Sl → Nat → Sl → List Sl
  | [], _, _ => []
  | _ :: r, 0, y => y :: r
  | x :: r, n + 1, y => x :: put r n y
def S.set (s : S) (i : Nat) (x : Sl) : S := ⟨put s.ρ i x, s.μ⟩
theorem put_len : ∀ (l : List Sl) (i : Nat) (x : Sl), (put l i x).length = l.length
  | [], _, _ => rfl
  | _ :: _, 0, _ => rfl
  | _ :: r, n + 1, y => by show (put r n y).length + 1 = r.length + 1; rw [put_len r n y]
theorem get_put : ∀ (l : List Sl) (i j : Nat) (x : Sl), get (put l i x) j = if j = i ∧ i < l.length then x else get l j
  | [], i, j, x => by simp [put, get]
  | y :: r, 0, 0, x => by simp [put, get]
  | y :: r, 0, j + 1, x => by simp [put, get]
  | y :: r, n + 1, 0, x => by simp [put, get]
  | y :: r, n + 1, j + 1, x => by
    show get (put r n x) j = if j + 1 = n + 1 ∧ n + 1 < r.length + 1 then x else get r j
    rw [get_put r n j x]
    simp
theorem get_ge : ∀ (l : List Sl) (i : Nat), l.length ≤ i → get l i = .no
  | [], _, _ => rfl
  | _ :: r, 0, h => by simp at h
  | _ :: r, n + 1, h => get_ge r n (by simpa using h)

/-- the own list or dict at a -/
def Hd (K : PySem.W.Frag) (G H : Hp) (a : Addr) : Sl → Prop
  | .l ds => ∃ xs, H a = some (.lst xs) ∧ DVs K G ds xs
  | .k ks ds => ∃ xs, H a = some (.dK (ks.zip xs)) ∧ ks.length = xs.length ∧ DVs K G ds xs
  | .t ks ds => ∃ xs, H a = some (.dT (ks.zip xs)) ∧ ks.length = xs.length ∧ DVs K G ds xs
  | _ => False
def ObOk (K : PySem.W.Frag) (G H : Hp) (a : Addr) : Ob → Prop
  | .ins C dx fs ds => ∃ xs, H a = some (.ins C dx (fs.zip xs)) ∧ fs.length = xs.length ∧ DVs K G ds xs
  | .sl x => Hd K G H a x
/-- a frozen list or dict as a tree -/
def frzD : Sl → D
  | .d d => d
  | .l ds => .lst ds
  | .k ks ds => .dic ks ds
  | .t ks ds => .dit ks ds
  | _ => .non
def SlOk (K : PySem.W.Frag) (G U H : Hp) (μ : Mu) (o : Option V) : Sl → Prop
  | .no => True
  | .d d => ∃ v, o = some v ∧ DV K G d v
  | .b _ => False
  | x => ∃ a, o = some (.ref a) ∧ G a = none ∧ U a = none ∧ μ a = none ∧ Hd K G H a x
/-- objects that never change (G), objects of others (U), known mutable ones (μ), all in H -/
structure Base (K : PySem.W.Frag) (G U H : Hp) (μ : Mu) : Prop where
  sub : Same G H
  usub : Same U H
  ug : ∀ a o, U a = some o → G a = none ∧ μ a = none
  mu : ∀ a o, μ a = some o → G a = none ∧ ObOk K G H a o
def OwnAt (σ : L2.St) (ρ : List Sl) (i : Nat) (a : Addr) : Prop := (get ρ i).own = true ∧ σ[i]? = some (some (.ref a))
structure St (K : PySem.W.Frag) (G U H : Hp) (σ : L2.St) (s : S) : Prop where
  base : Base K G U H s.μ
  len : s.ρ.length = σ.length
  slot : ∀ i, SlOk K G U H s.μ (σ[i]?.join) (get s.ρ i)
  dis : ∀ i j a, i ≠ j → OwnAt σ s.ρ i a → OwnAt σ s.ρ j a → False
/-- an expression's value -/
def RsOk (K : PySem.W.Frag) (G U H : Hp) (σ : L2.St) (s : S) (v : V) : Sl → Prop
  | .d d => DV K G d v
  | .no => False
  | .b i => (get s.ρ i).own = true ∧ σ[i]? = some (some v)
  | x => ∃ p, v = .ref p ∧ G p = none ∧ U p = none ∧ s.μ p = none ∧ Hd K G H p x ∧ ∀ i, ¬ OwnAt σ s.ρ i p
/-- a call's or an operator's value -/
def Res (K : PySem.W.Frag) (G U H : Hp) (μ : Mu) (v : V) : Sl → Prop
  | .d d => DV K G d v
  | .no => False
  | .b _ => False
  | x => ∃ p, v = .ref p ∧ G p = none ∧ U p = none ∧ μ p = none ∧ Hd K G H p x

abbrev PhiE := S → (Sl → S → Prop) → Prop
abbrev PhiT := S → (Bool → S → Prop) → Prop
abbrev PhiA := S → (List D → S → Prop) → Prop
structure DE where
  nx : S → Prop
  rt : Sl → Mu → Prop
  bk : S → Prop := fun _ => False
  ct : S → Prop := fun _ => False
abbrev PhiS := DE → S → Prop

def liftE (K : PySem.W.Frag) (φ : PhiE) : TE := fun σ H Q => ∃ G U s R, St K G U H σ s ∧ φ s R ∧ ∀ r s' G' H' v, R r s' → Same G G' → St K G' U H' σ s' → RsOk K G' U H' σ s' v r → Q v H'
def liftT (K : PySem.W.Frag) (φ : PhiT) : TT := fun σ H Q => ∃ G U s R, St K G U H σ s ∧ φ s R ∧ ∀ b s' G' H', R b s' → Same G G' → St K G' U H' σ s' → Q b H'
def liftA (K : PySem.W.Frag) (φ : PhiA) : TA := fun σ H Q => ∃ G U s R, St K G U H σ s ∧ φ s R ∧ ∀ ds s' G' H' vs, R ds s' → Same G G' → St K G' U H' σ s' → DVs K G' ds vs → Q vs H'
structure EOk (K : PySem.W.Frag) (G U : Hp) (Δ : DE) (E : Ends) : Prop where
  nx : ∀ s' G' H' σ', Δ.nx s' → Same G G' → St K G' U H' σ' s' → E.nx σ' H'
  bk : ∀ s' G' H' σ', Δ.bk s' → Same G G' → St K G' U H' σ' s' → E.bk σ' H'
  ct : ∀ s' G' H' σ', Δ.ct s' → Same G G' → St K G' U H' σ' s' → E.ct σ' H'
  rt : ∀ r μ' G' H' v, Δ.rt r μ' → Same G G' → Base K G' U H' μ' → Res K G' U H' μ' v r → E.rt v H'
def liftS (K : PySem.W.Frag) (φ : PhiS) : TS := fun E σ H => ∃ G U s Δ, St K G U H σ s ∧ φ Δ s ∧ EOk K G U Δ E

/-! ### facts of states -/
section
variable {K : PySem.W.Frag} {G G' U H H' : Hp} {σ : L2.St} {s : S} {v : V} {r x : Sl} {a p : Addr} {μ : Mu}
theorem EOk.mono {Δ : DE} {E : Ends} (e : Same G G') (h : EOk K G U Δ E) : EOk K G' U Δ E :=
  ⟨fun s' g H' σ' a b => h.nx s' g H' σ' a (e.trans b), fun s' g H' σ' a b => h.bk s' g H' σ' a (e.trans b), fun s' g H' σ' a b => h.ct s' g H' σ' a (e.trans b), fun r μ' g H' v a b => h.rt r μ' g H' v a (e.trans b)⟩
theorem Hd.mono (e : Same G G') (eh : H a = H' a) (h : Hd K G H a x) : Hd K G' H' a x := by
  cases x with
  | l ds => obtain ⟨xs, h1, h2⟩ := h; exact ⟨xs, eh ▸ h1, h2.mono e⟩
  | k ks ds => obtain ⟨xs, h1, h2, h3⟩ := h; exact ⟨xs, eh ▸ h1, h2, h3.mono e⟩
  | t ks ds => obtain ⟨xs, h1, h2, h3⟩ := h; exact ⟨xs, eh ▸ h1, h2, h3.mono e⟩
  | no => exact h.elim
  | d d => exact h.elim
  | b i => exact h.elim
theorem Hd.own (h : Hd K G H a x) : x.own = true := by
  cases x with
  | l ds => rfl
  | k ks ds => rfl
  | t ks ds => rfl
  | no => exact h.elim
  | d d => exact h.elim
  | b i => exact h.elim
theorem Hd.there (h : Hd K G H a x) : ∃ o, H a = some o := by
  cases x with
  | l ds => obtain ⟨xs, h1, h2⟩ := h; exact ⟨_, h1⟩
  | k ks ds => obtain ⟨xs, h1, h2, h3⟩ := h; exact ⟨_, h1⟩
  | t ks ds => obtain ⟨xs, h1, h2, h3⟩ := h; exact ⟨_, h1⟩
  | no => exact h.elim
  | d d => exact h.elim
  | b i => exact h.elim
theorem ObOk.mono {o : Ob} (e : Same G G') (eh : H a = H' a) (h : ObOk K G H a o) : ObOk K G' H' a o := by
  cases o with
  | ins C dx fs ds => obtain ⟨xs, h1, h2, h3⟩ := h; exact ⟨xs, eh ▸ h1, h2, h3.mono e⟩
  | sl x => exact Hd.mono e eh h
theorem ObOk.there {o : Ob} (h : ObOk K G H a o) : ∃ o, H a = some o := by
  cases o with
  | ins C dx fs ds => obtain ⟨xs, h1, h2, h3⟩ := h; exact ⟨_, h1⟩
  | sl x => exact Hd.there h
/-- an own slot's value -/
theorem SlOk.ownAt {o : Option V} (ho : x.own = true) (h : SlOk K G U H μ o x) : ∃ a, o = some (.ref a) ∧ G a = none ∧ U a = none ∧ μ a = none ∧ Hd K G H a x := by
  cases x with
  | l ds => exact h
  | k ks ds => exact h
  | t ks ds => exact h
  | no => cases ho
  | d d => cases ho
  | b i => cases ho
theorem SlOk.ofOwn {o : Option V} (h : ∃ a, o = some (.ref a) ∧ G a = none ∧ U a = none ∧ μ a = none ∧ Hd K G H a x) : SlOk K G U H μ o x := by
  cases x with
  | l ds => exact h
  | k ks ds => exact h
  | t ks ds => exact h
  | no => obtain ⟨_, _, _, _, _, h⟩ := h; exact h.elim
  | d d => obtain ⟨_, _, _, _, _, h⟩ := h; exact h.elim
  | b i => obtain ⟨_, _, _, _, _, h⟩ := h; exact h.elim
theorem Res.own (ho : r.own = true) : Res K G U H μ v r ↔ ∃ p, v = .ref p ∧ G p = none ∧ U p = none ∧ μ p = none ∧ Hd K G H p r := by
  cases r with
  | l ds => exact Iff.rfl
  | k ks ds => exact Iff.rfl
  | t ks ds => exact Iff.rfl
  | no => cases ho
  | d d => cases ho
  | b i => cases ho
theorem RsOk.own (ho : r.own = true) : RsOk K G U H σ s v r ↔ ∃ p, v = .ref p ∧ G p = none ∧ U p = none ∧ s.μ p = none ∧ Hd K G H p r ∧ ∀ i, ¬ OwnAt σ s.ρ i p := by
  cases r with
  | l ds => exact Iff.rfl
  | k ks ds => exact Iff.rfl
  | t ks ds => exact Iff.rfl
  | no => cases ho
  | d d => cases ho
  | b i => cases ho
theorem join_of {i : Nat} {v : V} (h : σ[i]? = some (some v)) : σ[i]?.join = some v := by rw [h]; rfl
theorem of_join {i : Nat} {v : V} (h : σ[i]?.join = some v) : σ[i]? = some (some v) := by
  cases e : σ[i]? with
  | none => rw [e] at h; cases h
  | some o =>
    rw [e] at h
    have h : o = some v := h
    rw [h]
theorem St.ownAt {i : Nat} (h : St K G U H σ s) (ho : (get s.ρ i).own = true) : ∃ a, σ[i]? = some (some (.ref a)) ∧ OwnAt σ s.ρ i a ∧ G a = none ∧ U a = none ∧ s.μ a = none ∧ Hd K G H a (get s.ρ i) := by
  obtain ⟨a, h1, h2, h3, h4, h5⟩ := (h.slot i).ownAt ho
  exact ⟨a, of_join h1, ⟨ho, of_join h1⟩, h2, h3, h4, h5⟩
theorem St.own_facts {i : Nat} (h : St K G U H σ s) (ho : OwnAt σ s.ρ i a) : G a = none ∧ U a = none ∧ s.μ a = none ∧ Hd K G H a (get s.ρ i) := by
  obtain ⟨b, h1, h2, h3, h4, h5, h6⟩ := h.ownAt ho.1
  have : a = b := by
    have e := ho.2.symm.trans h1
    injection e with e
    injection e with e
    injection e
  subst this
  exact ⟨h3, h4, h5, h6⟩
end
end DL
/-! DL2: freezing, looking, operators, names, calls: rules of expressions over trees. -/
namespace DL
open PySem PySem.Spec PyProof.Rows L2

section
variable {K : PySem.W.Frag} {G G' U H H' : Hp} {σ : L2.St} {s : S} {v : V} {r x : Sl} {a p : Addr} {μ μ' : Mu} {d : D}

theorem same_new {o : HO} (h : G p = none) : Same G (upd G p o) := fun b u e => by
  rw [upd_ne (ne_of_none e h)]
  exact e
/-- a tree read off a frozen object -/
theorem Hd.frz {o : HO} (ho : H p = some o) (h : Hd K G H p x) (e : Same G G') (hp : G' p = some o) : DV K G' (frzD x) (.ref p) := by
  cases x with
  | l ds =>
    obtain ⟨xs, h1, h2⟩ := h
    rw [h1] at ho
    cases ho
    exact ⟨p, xs, rfl, SqL.of hp, h2.mono e⟩
  | k ks ds =>
    obtain ⟨xs, h1, h2, h3⟩ := h
    rw [h1] at ho
    cases ho
    exact ⟨p, xs, rfl, .inl hp, h2, h3.mono e⟩
  | t ks ds =>
    obtain ⟨xs, h1, h2, h3⟩ := h
    rw [h1] at ho
    cases ho
    exact ⟨p, xs, rfl, .inl hp, h2, h3.mono e⟩
  | no => exact h.elim
  | d d => exact h.elim
  | b i => exact h.elim
theorem Base.freeze {o : HO} (h : Base K G U H μ) (ho : H p = some o) (hg : G p = none) (hu : U p = none) (hm : μ p = none) : Base K (upd G p o) U H μ := by
  refine ⟨fun b u e => ?_, h.usub, fun b u e => ?_, fun b u e => ?_⟩
  · by_cases hb : b = p
    · subst hb
      rw [upd_same] at e
      cases e
      exact ho
    · rw [upd_ne hb] at e
      exact h.sub b u e
  · have hb : b ≠ p := fun z => by rw [z, hu] at e; cases e
    rw [upd_ne hb]
    exact h.ug b u e
  · have hb : b ≠ p := fun z => by rw [z, hm] at e; cases e
    rw [upd_ne hb]
    obtain ⟨h1, h2⟩ := h.mu b u e
    exact ⟨h1, h2.mono (same_new hg) rfl⟩
theorem SlOk.grow {o : Option V} (e : Same G G') (hn : ∀ a, o = some (.ref a) → x.own = true → G a = none → G' a = none) (h : SlOk K G U H μ o x) : SlOk K G' U H μ o x := by
  cases hx : x.own with
  | true =>
    obtain ⟨a, h1, h2, h3, h4, h5⟩ := h.ownAt hx
    exact .ofOwn ⟨a, h1, hn a h1 hx h2, h3, h4, h5.mono e rfl⟩
  | false =>
    cases x with
    | no => exact trivial
    | d d => obtain ⟨v, h1, h2⟩ := h; exact ⟨v, h1, h2.mono e⟩
    | b i => exact h.elim
    | l ds => cases hx
    | k ks ds => cases hx
    | t ks ds => cases hx
theorem St.freeze {o : HO} (h : St K G U H σ s) (ho : H p = some o) (hg : G p = none) (hu : U p = none) (hm : s.μ p = none) (hn : ∀ i, ¬ OwnAt σ s.ρ i p) : St K (upd G p o) U H σ s := by
  refine ⟨h.base.freeze ho hg hu hm, h.len, fun i => ?_, h.dis⟩
  refine (h.slot i).grow (same_new hg) fun a ha hx hga => ?_
  have hap : a ≠ p := fun z => hn i ⟨hx, by rw [← z]; exact of_join ha⟩
  rw [upd_ne hap]
  exact hga
/-- forget what a slot holds, or hold a tree there that it is -/
theorem St.know {i : Nat} {y : Sl} (h : St K G U H σ s) (hy : SlOk K G U H s.μ (σ[i]?.join) y) (hno : y.own = false) : St K G U H σ (s.set i y) := by
  refine ⟨h.base, ?_, fun j => ?_, fun j k a hjk h1 h2 => ?_⟩
  · show (put s.ρ i y).length = σ.length
    rw [put_len]
    exact h.len
  · show SlOk K G U H s.μ _ (get (put s.ρ i y) j)
    rw [get_put]
    split
    · rename_i e
      rw [e.1]
      exact hy
    · exact h.slot j
  · have back : ∀ {m : Nat}, OwnAt σ (put s.ρ i y) m a → OwnAt σ s.ρ m a := fun {m} ⟨q1, q2⟩ => by
      rw [get_put] at q1
      split at q1
      · rw [hno] at q1; cases q1
      · exact ⟨q1, q2⟩
    exact h.dis j k a hjk (back h1) (back h2)

def frz (s : S) : Sl → D × S
  | .b i => (frzD (get s.ρ i), s.set i (.d (frzD (get s.ρ i))))
  | r => (frzD r, s)
/-- freeze a value (a list that a slot owns is frozen there, too) and go on with its tree -/
def fz (r : Sl) (s : S) (k : D → S → Prop) : Prop := k (frz s r).1 (frz s r).2
def pin : Sl → Sl
  | .b i => .b i
  | .no => .no
  | r => .d (frzD r)
/-- look at a value -/
def lk (r : Sl) (s : S) (k : D → Prop) : Prop := match r with
  | .d d => k d
  | .l ds => k (.lst ds)
  | .k ks ds => k (.dic ks ds)
  | .t ks ds => k (.dit ks ds)
  | .b i => match get s.ρ i with
    | .d d => k d
    | .l ds => k (.lst ds)
    | .k ks ds => k (.dic ks ds)
    | .t ks ds => k (.dit ks ds)
    | _ => False
  | .no => False
def Lk (K : PySem.W.Frag) (G H : Hp) (d : D) (v : V) : Prop := DV K G d v ∨ ∃ p x, v = .ref p ∧ Hd K G H p x ∧ d = frzD x

theorem frz_ok (h : St K G U H σ s) (hr : RsOk K G U H σ s v r) : ∃ G', Same G G' ∧ St K G' U H σ (frz s r).2 ∧ DV K G' (frz s r).1 v := by
  have own : ∀ {r : Sl}, r.own = true → RsOk K G U H σ s v r → ∃ G', Same G G' ∧ St K G' U H σ s ∧ DV K G' (frzD r) v := fun {r} ho hr => by
    obtain ⟨p, e, h1, h2, h3, h4, h5⟩ := (RsOk.own ho).mp hr
    subst e
    obtain ⟨o, hp⟩ := h4.there
    exact ⟨upd G p o, same_new h1, h.freeze hp h1 h2 h3 h5, h4.frz hp (same_new h1) upd_same⟩
  cases r with
  | d d => exact ⟨G, Same.refl _, h, hr⟩
  | no => exact hr.elim
  | l ds => exact own rfl hr
  | k ks ds => exact own rfl hr
  | t ks ds => exact own rfl hr
  | b i =>
    obtain ⟨ho, e⟩ := hr
    obtain ⟨a, e', oa, h1, h2, h3, h4⟩ := h.ownAt ho
    have : v = .ref a := by
      rw [e] at e'
      injection e' with e'
      injection e'
    subst this
    obtain ⟨o, hp⟩ := h4.there
    have dv : DV K (upd G a o) (frzD (get s.ρ i)) (.ref a) := h4.frz hp (same_new h1) upd_same
    refine ⟨upd G a o, same_new h1, ?_, dv⟩
    show St K (upd G a o) U H σ (s.set i (.d (frzD (get s.ρ i))))
    refine ⟨h.base.freeze hp h1 h2 h3, ?_, fun j => ?_, fun j k b hjk q1 q2 => ?_⟩
    · show (put s.ρ i _).length = σ.length
      rw [put_len]
      exact h.len
    · show SlOk K _ U H s.μ _ (get (put s.ρ i _) j)
      rw [get_put]
      split
      · rename_i z
        rw [z.1]
        exact ⟨.ref a, join_of e, dv⟩
      · rename_i z
        refine (h.slot j).grow (same_new h1) fun b hb hx hgb => ?_
        have hba : b ≠ a := fun w => by
          subst w
          by_cases hj : j = i
          · subst hj
            refine z ⟨rfl, ?_⟩
            by_cases hl : j < s.ρ.length
            · exact hl
            · rw [get_ge _ _ (by omega)] at ho
              cases ho
          · exact h.dis j i b hj ⟨hx, of_join hb⟩ oa
        rw [upd_ne hba]
        exact hgb
    · have back : ∀ {m : Nat}, OwnAt σ (put s.ρ i (.d (frzD (get s.ρ i)))) m b → OwnAt σ s.ρ m b := fun {m} ⟨q1, q2⟩ => by
        rw [get_put] at q1
        split at q1
        · cases q1
        · exact ⟨q1, q2⟩
      exact h.dis j k b hjk (back q1) (back q2)
theorem pin_ok (h : St K G U H σ s) (hr : RsOk K G U H σ s v r) : ∃ G', Same G G' ∧ St K G' U H σ s ∧ ((∃ d, pin r = .d d ∧ DV K G' d v) ∨ ∃ i, pin r = .b i ∧ σ[i]? = some (some v)) := by
  have own : ∀ {r : Sl}, r.own = true → RsOk K G U H σ s v r → ∃ G', Same G G' ∧ St K G' U H σ s ∧ DV K G' (frzD r) v := fun {r} ho hr => by
    obtain ⟨p, e, h1, h2, h3, h4, h5⟩ := (RsOk.own ho).mp hr
    subst e
    obtain ⟨o, hp⟩ := h4.there
    exact ⟨upd G p o, same_new h1, h.freeze hp h1 h2 h3 h5, h4.frz hp (same_new h1) upd_same⟩
  cases r with
  | d d => exact ⟨G, Same.refl _, h, .inl ⟨d, rfl, hr⟩⟩
  | no => exact hr.elim
  | l ds =>
    obtain ⟨G', e, q1, q2⟩ := own rfl hr
    exact ⟨G', e, q1, .inl ⟨_, rfl, q2⟩⟩
  | k ks ds =>
    obtain ⟨G', e, q1, q2⟩ := own rfl hr
    exact ⟨G', e, q1, .inl ⟨_, rfl, q2⟩⟩
  | t ks ds =>
    obtain ⟨G', e, q1, q2⟩ := own rfl hr
    exact ⟨G', e, q1, .inl ⟨_, rfl, q2⟩⟩
  | b i => exact ⟨G, Same.refl _, h, .inr ⟨i, rfl, hr.2⟩⟩
/-- a pinned value -/
def Pn (K : PySem.W.Frag) (G : Hp) (σ : L2.St) (v : V) (r : Sl) : Prop := (∃ d, r = .d d ∧ DV K G d v) ∨ ∃ i, r = .b i ∧ σ[i]? = some (some v)
theorem Pn.mono (e : Same G G') (h : Pn K G σ v r) : Pn K G' σ v r := by
  rcases h with ⟨d, h1, h2⟩ | h
  · exact .inl ⟨d, h1, h2.mono e⟩
  · exact .inr h
theorem lk_ok {k : D → Prop} (h : St K G U H σ s) (hr : Pn K G σ v r) (hk : lk r s k) : ∃ d, Lk K G H d v ∧ k d := by
  rcases hr with ⟨d, rfl, h2⟩ | ⟨i, rfl, h2⟩
  · exact ⟨d, .inl h2, hk⟩
  · have hs := h.slot i
    unfold lk at hk
    simp only at hk
    cases e : get s.ρ i with
    | d d =>
      rw [e] at hk hs
      obtain ⟨w, h3, h4⟩ := hs
      rw [join_of h2] at h3
      cases h3
      exact ⟨d, .inl h4, hk⟩
    | no => rw [e] at hk; exact hk.elim
    | b j => rw [e] at hk; exact hk.elim
    | l ds =>
      rw [e] at hk hs
      obtain ⟨b, h3, h4, h5, h6, h7⟩ := hs
      rw [join_of h2] at h3
      cases h3
      exact ⟨_, .inr ⟨b, _, rfl, h7, rfl⟩, hk⟩
    | k ks ds =>
      rw [e] at hk hs
      obtain ⟨b, h3, h4, h5, h6, h7⟩ := hs
      rw [join_of h2] at h3
      cases h3
      exact ⟨_, .inr ⟨b, _, rfl, h7, rfl⟩, hk⟩
    | t ks ds =>
      rw [e] at hk hs
      obtain ⟨b, h3, h4, h5, h6, h7⟩ := hs
      rw [join_of h2] at h3
      cases h3
      exact ⟨_, .inr ⟨b, _, rfl, h7, rfl⟩, hk⟩
theorem pin_lk {k : D → Prop} {s : S} : lk (pin r) s k = lk r s k := by
  cases r <;> rfl

/-! ### what others own, for a call -/
open Classical in
noncomputable def Uo (U H : Hp) (σ : L2.St) (ρ : List Sl) : Hp := fun a => if (∃ i, OwnAt σ ρ i a) then H a else U a
theorem Uo_own {ρ : List Sl} {i : Nat} (h : OwnAt σ ρ i a) : Uo U H σ ρ a = H a := if_pos ⟨i, h⟩
theorem Uo_not {ρ : List Sl} (h : ¬ ∃ i, OwnAt σ ρ i a) : Uo U H σ ρ a = U a := if_neg h
theorem St.out (h : St K G U H σ s) : Base K G (Uo U H σ s.ρ) H s.μ := by
  refine ⟨h.base.sub, fun b o e => ?_, fun b o e => ?_, h.base.mu⟩
  · by_cases hb : ∃ i, OwnAt σ s.ρ i b
    · obtain ⟨i, hb⟩ := hb
      rw [Uo_own hb] at e
      exact e
    · rw [Uo_not hb] at e
      exact h.base.usub b o e
  · by_cases hb : ∃ i, OwnAt σ s.ρ i b
    · obtain ⟨i, hb⟩ := hb
      obtain ⟨h1, h2, h3, h4⟩ := h.own_facts hb
      exact ⟨h1, h3⟩
    · rw [Uo_not hb] at e
      exact h.base.ug b o e
theorem St.back (h : St K G U H σ s) (e : Same G G') (b : Base K G' (Uo U H σ s.ρ) H' μ') : St K G' U H' σ ⟨s.ρ, μ'⟩ := by
  have un : ∀ c o, U c = some o → Uo U H σ s.ρ c = some o := fun c o q => by
    rw [Uo_not]
    · exact q
    · rintro ⟨i, hi⟩
      have := (h.own_facts hi).2.1
      rw [q] at this
      cases this
  refine ⟨⟨b.sub, fun c o q => b.usub c o (un c o q), fun c o q => b.ug c o (un c o q), b.mu⟩, h.len, fun i => ?_, h.dis⟩
  cases hx : (get s.ρ i).own with
  | true =>
    obtain ⟨a, e1, oa, h1, h2, h3, h4⟩ := h.ownAt hx
    obtain ⟨o, ho⟩ := h4.there
    have hu : Uo U H σ s.ρ a = some o := (Uo_own oa).trans ho
    have q := b.ug a o hu
    exact .ofOwn ⟨a, join_of e1, q.1, h2, q.2, h4.mono e (ho.trans (b.usub a o hu).symm)⟩
  | false =>
    have hs := h.slot i
    show SlOk K G' U H' μ' (σ[i]?.join) (get s.ρ i)
    cases e' : get s.ρ i with
    | no => exact trivial
    | d d =>
      rw [e'] at hs
      obtain ⟨v, h1, h2⟩ := hs
      exact ⟨v, h1, h2.mono e⟩
    | b j => rw [e'] at hs; exact hs.elim
    | l ds => rw [e'] at hx; cases hx
    | k ks ds => rw [e'] at hx; cases hx
    | t ks ds => rw [e'] at hx; cases hx
theorem Res.rs {ρ : List Sl} (h : St K G U H σ s) (hr : Res K G' (Uo U H σ s.ρ) H' μ' v r) : RsOk K G' U H' σ ⟨s.ρ, μ'⟩ v r := by
  cases ho : r.own with
  | true =>
    obtain ⟨p, e, h1, h2, h3, h4⟩ := (Res.own ho).mp hr
    have no : ¬ ∃ i, OwnAt σ s.ρ i p := fun ⟨i, hi⟩ => by
      rw [Uo_own hi] at h2
      obtain ⟨o, q⟩ := (h.own_facts hi).2.2.2.there
      rw [q] at h2
      cases h2
    rw [Uo_not no] at h2
    exact (RsOk.own ho).mpr ⟨p, e, h1, h2, h3, h4, fun i hi => no ⟨i, hi⟩⟩
  | false =>
    cases r with
    | d d => exact hr
    | no => exact hr.elim
    | b i => exact hr.elim
    | l ds => cases ho
    | k ks ds => cases ho
    | t ks ds => cases ho
end

/-! ### rules by values -/
abbrev O1 := D → (Sl → Prop) → Prop
abbrev O2 := D → D → (Sl → Prop) → Prop
abbrev OA := List D → (Sl → Prop) → Prop
abbrev Con (K : PySem.W.Frag) (G U : Hp) (μ : Mu) (R : Sl → Prop) (Q : VK) : Prop := ∀ r v G' H', R r → Same G G' → Base K G' U H' μ → Res K G' U H' μ v r → Q v H'
def OpS (K : PySem.W.Frag) (r : R2) (o : O2) : Prop := ∀ (G U H : Hp) (μ : Mu) (x y : V) (dx dy : D) (R : Sl → Prop) (Q : VK), Base K G U H μ → Lk K G H dx x → Lk K G H dy y → o dx dy R → Con K G U μ R Q → r x y H Q
def UnS (K : PySem.W.Frag) (r : V → Hp → VK → Prop) (o : O1) : Prop := ∀ (G U H : Hp) (μ : Mu) (x : V) (dx : D) (R : Sl → Prop) (Q : VK), Base K G U H μ → Lk K G H dx x → o dx R → Con K G U μ R Q → r x H Q
/-- a call by values: its arguments frozen -/
def CallS (K : PySem.W.Frag) (r : List V → Hp → VK → Prop) (o : OA) : Prop := ∀ (G U H : Hp) (μ : Mu) (xs : List V) (ds : List D) (R : Sl → Prop) (Q : VK), Base K G U H μ → DVs K G ds xs → o ds R → Con K G U μ R Q → r xs H Q
/-- a call of one argument that is looked at -/
def Call1S (K : PySem.W.Frag) (r : List V → Hp → VK → Prop) (o : O1) : Prop := ∀ (G U H : Hp) (μ : Mu) (x : V) (d : D) (R : Sl → Prop) (Q : VK), Base K G U H μ → Lk K G H d x → o d R → Con K G U μ R Q → r [x] H Q

theorem con_ok {K : PySem.W.Frag} {G0 G U H : Hp} {σ : L2.St} {s : S} {R : Sl → S → Prop} {Q : VK} (h : St K G U H σ s) (e0 : Same G0 G)
    (k : ∀ r s' G' H' v, R r s' → Same G0 G' → St K G' U H' σ s' → RsOk K G' U H' σ s' v r → Q v H') : Con K G (Uo U H σ s.ρ) s.μ (fun r => R r s) Q := fun r v G' H' hr e b hv =>
  k r s G' H' v hr (e0.trans e) (h.back e b) (hv.rs (ρ := s.ρ) h)

/-! ### expressions -/
section
variable {X : Cx} {e e1 e2 : Expr} {φ φ1 φ2 : PhiE}
theorem _root_.L2.PE.imp {t t' : TE} (h : PE X e t) (i : ∀ σ H Q, t' σ H Q → t σ H Q) : PE X e t' := ⟨fun pins s σ H Q I q => h.run pins s σ H Q I (i σ H Q q)⟩
theorem _root_.L2.PT.imp {t t' : TT} (h : PT X e t) (i : ∀ σ H Q, t' σ H Q → t σ H Q) : PT X e t' := ⟨fun pins s σ H Q I q => h.run pins s σ H Q I (i σ H Q q)⟩
theorem _root_.L2.PW.imp {t t' : TT} (h : PW X e t) (i : ∀ σ H Q, t' σ H Q → t σ H Q) : PW X e t' := ⟨fun w pins s σ H Q I q => h.run w pins s σ H Q I (i σ H Q q)⟩
theorem _root_.L2.PA.imp {es : List Expr} {t t' : TA} (h : PA X es t) (i : ∀ σ H Q, t' σ H Q → t σ H Q) : PA X es t' := ⟨fun p pins s σ H Q I q => h.run p pins s σ H Q I (i σ H Q q)⟩
theorem _root_.L2.PS.imp {st : Stmt} {t t' : TS} (h : PS X st t) (i : ∀ E σ H, t' E σ H → t E σ H) : PS X st t' := ⟨fun pins s σ H E I q => h.run pins s σ H E I (i E σ H q)⟩
theorem _root_.L2.PSs.imp {st : List Stmt} {t t' : TS} (h : PSs X st t) (i : ∀ E σ H, t' E σ H → t E σ H) : PSs X st t' := ⟨fun pins s σ H E I q => h.run pins s σ H E I (i E σ H q)⟩

/-- a constant -/
def eC (d : D) : PhiE := fun s R => R (.d d) s
theorem de_c {v : V} {d : D} (h : PE X e (tC v)) (hv : ∀ G, DV X.K G d v) : PE X e (liftE X.K (eC d)) := h.imp fun σ H Q ⟨G, U, s, R, hs, hr, k⟩ => k _ s G H v hr (Same.refl _) hs (hv G)
theorem de_int {i j pos} : PE X (.Constant (.int i) j pos) (liftE X.K (eC (.int i))) := de_c pe_int fun _ => rfl
theorem de_bl {b j pos} : PE X (.Constant (.bool b) j pos) (liftE X.K (eC (.bl b))) := de_c pe_bl fun _ => rfl
theorem de_non {j pos} : PE X (.Constant .none j pos) (liftE X.K (eC .non)) := de_c pe_non fun _ => rfl
theorem de_str {x j pos} : PE X (.Constant (.str x) j pos) (liftE X.K (eC (.str x))) := de_c pe_str fun _ => rfl
/-- a name of the frame -/
def eV (i : Nat) : PhiE := fun s R => match get s.ρ i with
  | .d d => R (.d d) s
  | .l _ => R (.b i) s
  | .k _ _ => R (.b i) s
  | .t _ _ => R (.b i) s
  | _ => False
theorem de_v {i : Nat} (h : PE X e (tVar i)) : PE X e (liftE X.K (eV i)) := h.imp fun σ H Q ⟨G, U, s, R, hs, hr, k⟩ => by
  have hx := hs.slot i
  unfold eV at hr
  have own : (get s.ρ i).own = true → R (.b i) s → tVar i σ H Q := fun ho hr => by
    obtain ⟨a, q1, q2, _⟩ := hs.ownAt ho
    exact ⟨.ref a, q1, k _ s G H _ hr (Same.refl _) hs ⟨ho, q1⟩⟩
  cases e' : get s.ρ i with
  | d d =>
    rw [e'] at hx hr
    obtain ⟨v, h1, h2⟩ := hx
    exact ⟨v, of_join h1, k _ s G H v hr (Same.refl _) hs h2⟩
  | no => rw [e'] at hr; exact hr.elim
  | b j => rw [e'] at hr; exact hr.elim
  | l ds => rw [e'] at hr; exact own (by rw [e']; rfl) hr
  | k ks ds => rw [e'] at hr; exact own (by rw [e']; rfl) hr
  | t ks ds => rw [e'] at hr; exact own (by rw [e']; rfl) hr
/-- a binary operator -/
def eOp (o : O2) (φ1 φ2 : PhiE) : PhiE := fun s R => φ1 s fun r1 s1 => φ2 s1 fun r2 s2 => lk r1 s2 fun x => lk r2 s2 fun y => o x y fun r => R r s2
theorem op_of {r : R2} {o : O2} (ho : OpS X.K r o) {σ : L2.St} {H : Hp} {Q : VK} (q : liftE X.K (eOp o φ1 φ2) σ H Q) : tOp r (liftE X.K φ1) (liftE X.K φ2) σ H Q := by
  obtain ⟨G, U, s, R, hs, hr, k⟩ := q
  refine ⟨G, U, s, _, hs, hr, fun r1 s1 G1 H1 v1 q1 e1 hs1 hv1 => ?_⟩
  obtain ⟨G1', e1', hs1', p1⟩ := pin_ok hs1 hv1
  refine ⟨G1', U, s1, _, hs1', q1, fun r2 s2 G2 H2 v2 q2 e2 hs2 hv2 => ?_⟩
  obtain ⟨G2', e2', hs2', p2⟩ := pin_ok hs2 hv2
  rw [← pin_lk] at q2
  obtain ⟨x, lx, q2⟩ := lk_ok hs2' (Pn.mono (e2.trans e2') p1) q2
  rw [← pin_lk] at q2
  obtain ⟨y, ly, q2⟩ := lk_ok hs2' p2 q2
  exact ho G2' _ H2 s2.μ v1 v2 x y _ Q hs2'.out lx ly q2 (con_ok hs2' ((((e1.trans e1').trans e2).trans e2')) k)
theorem de_op {op : Operator} {r : R2} {o : O2} {pos : Pos} (hr : OpR X (binaryOp op) r) (ho : OpS X.K r o) (h1 : PE X e1 (liftE X.K φ1)) (h2 : PE X e2 (liftE X.K φ2)) : PE X (.BinOp e1 op e2 pos) (liftE X.K (eOp o φ1 φ2)) :=
  (pe_op hr h1 h2).imp fun _ _ _ q => op_of ho q
theorem de_cmp {op : CmpOp} {r : R2} {o : O2} {pos : Pos} (hr : OpR X (compareOp op) r) (hm : behindInMarks op e2 = false) (ho : OpS X.K r o) (h1 : PE X e1 (liftE X.K φ1)) (h2 : PE X e2 (liftE X.K φ2)) : PE X (.Compare e1 [op] [e2] pos) (liftE X.K (eOp o φ1 φ2)) :=
  (pe_cmpR hr h1 h2 hm).imp fun _ _ _ q => op_of ho q
theorem de_ix {r : R2} {o : O2} {pos : Pos} (hr : IxR X r) (hp : PlainIx e2) (ho : OpS X.K r o) (h1 : PE X e1 (liftE X.K φ1)) (h2 : PE X e2 (liftE X.K φ2)) : PE X (.Subscript e1 e2 pos) (liftE X.K (eOp o φ1 φ2)) :=
  (pe_ix hr h1 h2 hp).imp fun _ _ _ q => op_of ho q
/-- a unary operator -/
def eUn (o : O1) (φ : PhiE) : PhiE := fun s R => φ s fun r1 s1 => lk r1 s1 fun x => o x fun r => R r s1
theorem un_of {r : V → Hp → VK → Prop} {o : O1} (ho : UnS X.K r o) {σ : L2.St} {H : Hp} {Q : VK} (q : liftE X.K (eUn o φ) σ H Q) : liftE X.K φ σ H fun x H1 => r x H1 Q := by
  obtain ⟨G, U, s, R, hs, hr, k⟩ := q
  refine ⟨G, U, s, _, hs, hr, fun r1 s1 G1 H1 v1 q1 e1 hs1 hv1 => ?_⟩
  obtain ⟨G1', e1', hs1', p1⟩ := pin_ok hs1 hv1
  rw [← pin_lk] at q1
  obtain ⟨x, lx, q1⟩ := lk_ok hs1' p1 q1
  exact ho G1' _ H1 s1.μ v1 x _ Q hs1'.out lx q1 (con_ok hs1' (e1.trans e1') k)
theorem de_un {op : UnaryOp} {r : V → Hp → VK → Prop} {o : O1} {pos : Pos} (hr : UnR X (unaryOp op) r) (ho : UnS X.K r o) (h1 : PE X e (liftE X.K φ)) : PE X (.UnaryOp op e pos) (liftE X.K (eUn o φ)) :=
  (pe_un hr h1).imp fun _ _ _ q => un_of ho q

/-! ### arguments -/
def aNil : PhiA := fun s R => R [] s
def aCons (φ : PhiE) (ψ : PhiA) : PhiA := fun s R => φ s fun r s1 => fz r s1 fun d s2 => ψ s2 fun ds s3 => R (d :: ds) s3
theorem da_nil : PA X [] (liftA X.K aNil) := pa_nil.imp fun σ H Q ⟨G, U, s, R, hs, hr, k⟩ => k [] s G H [] hr (Same.refl _) hs rfl
theorem da_cons {es : List Expr} {ψ : PhiA} (h : PE X e (liftE X.K φ)) (hr : PA X es (liftA X.K ψ)) (hs : starEach (e :: es) X.env = (false, eval e X.env) :: starEach es X.env := by rfl) : PA X (e :: es) (liftA X.K (aCons φ ψ)) :=
  (pa_cons h hr hs).imp fun σ H Q ⟨G, U, s, R, hs, hr, k⟩ => by
    refine ⟨G, U, s, _, hs, hr, fun r1 s1 G1 H1 v1 q1 e1 hs1 hv1 => ?_⟩
    obtain ⟨G1', e1', hs1', d1⟩ := frz_ok hs1 hv1
    exact ⟨G1', U, _, _, hs1', q1, fun ds s2 G2 H2 vs q2 e2 hs2 dvs => k _ s2 G2 H2 _ q2 ((e1.trans e1').trans e2) hs2 ⟨v1, vs, rfl, d1.mono e2, dvs⟩⟩
end
end DL
/-! DL3: tests, statements, loops, targets, calls of defs, a def's promise. -/
namespace DL
open PySem PySem.Spec PyProof.Rows L2

section
variable {K : PySem.W.Frag} {G G' U H H' : Hp} {σ : L2.St} {s : S} {v : V} {r x : Sl} {a p : Addr} {μ μ' : Mu} {d : D}
theorem Lk.dv (h : DV K G d v) : Lk K G H d v := .inl h
/-- the value of an own slot, or of a tree, after a store of it in slot i -/
theorem St.store {i : Nat} (h : St K G U H σ s) (hr : RsOk K G U H σ s v r) (hb : ∀ j, r ≠ .b j) : St K G U H (σ.set i (some v)) (s.set i r) := by
  have hlen : (put s.ρ i r).length = (σ.set i (some v)).length := by rw [put_len, List.length_set]; exact h.len
  have hiff : ∀ j, j = i → i < s.ρ.length → (σ.set i (some v))[j]? = some (some v) := fun j hj hl => by
    rw [hj, List.getElem?_set_self (by rw [← h.len]; exact hl)]
  have hne : ∀ j, ¬ (j = i ∧ i < s.ρ.length) → (σ.set i (some v))[j]? = σ[j]? := fun j hj => by
    by_cases e : j = i
    · have : ¬ i < s.ρ.length := fun z => hj ⟨e, z⟩
      rw [h.len] at this
      rw [List.set_eq_of_length_le (by omega)]
    · rw [List.getElem?_set_ne (Ne.symm e)]
  have own_of : ∀ {j : Nat} {a : Addr}, OwnAt (σ.set i (some v)) (put s.ρ i r) j a → (j = i ∧ i < s.ρ.length ∧ r.own = true ∧ v = .ref a) ∨ (¬ (j = i ∧ i < s.ρ.length) ∧ OwnAt σ s.ρ j a) := fun {j a} ⟨q1, q2⟩ => by
    rw [get_put] at q1
    by_cases e : j = i ∧ i < s.ρ.length
    · rw [if_pos e] at q1
      rw [hiff j e.1 e.2] at q2
      injection q2 with q2
      injection q2 with q2
      exact .inl ⟨e.1, e.2, q1, q2⟩
    · rw [if_neg e] at q1
      rw [hne j e] at q2
      exact .inr ⟨e, q1, q2⟩
  refine ⟨h.base, hlen, fun j => ?_, fun j k a hjk q1 q2 => ?_⟩
  · show SlOk K G U H s.μ _ (get (put s.ρ i r) j)
    rw [get_put]
    by_cases e : j = i ∧ i < s.ρ.length
    · rw [if_pos e, hiff j e.1 e.2]
      cases ho : r.own with
      | true =>
        obtain ⟨p, e1, h1, h2, h3, h4, h5⟩ := (RsOk.own ho).mp hr
        subst e1
        exact .ofOwn ⟨p, rfl, h1, h2, h3, h4⟩
      | false =>
        cases r with
        | d d => exact ⟨v, rfl, hr⟩
        | no => exact hr.elim
        | b k => exact absurd rfl (hb k)
        | l ds => cases ho
        | k ks ds => cases ho
        | t ks ds => cases ho
    · rw [if_neg e, hne j e]
      exact h.slot j
  · have fresh : ∀ {m : Nat}, r.own = true → v = .ref a → ¬ OwnAt σ s.ρ m a := fun {m} ho hv hm => by
      obtain ⟨p, e1, h1, h2, h3, h4, h5⟩ := (RsOk.own ho).mp hr
      rw [e1] at hv
      injection hv with hv
      subst hv
      exact h5 m hm
    rcases own_of q1 with ⟨e1, _, r1, v1⟩ | ⟨n1, o1⟩
    · rcases own_of q2 with ⟨e2, _, _, _⟩ | ⟨n2, o2⟩
      · exact hjk (e1.trans e2.symm)
      · exact fresh r1 v1 o2
    · rcases own_of q2 with ⟨e2, _, r2, v2⟩ | ⟨n2, o2⟩
      · exact fresh r2 v2 o1
      · exact h.dis j k a hjk o1 o2
theorem RsOk.ofDV (h : DV K G d v) : RsOk K G U H σ s v (.d d) := h
theorem St.setD {i : Nat} (h : St K G U H σ s) (hv : DV K G d v) : St K G U H (σ.set i (some v)) (s.set i (.d d)) := h.store (r := .d d) hv (fun j z => by cases z)
end

/-! ### tests -/
def truD (k : Bool → Prop) : D → Prop
  | .non => k false
  | .bl b => k b
  | .int i => k (i != 0)
  | .str x => x.length ≤ sizeLine ∧ k ((x.length : Int) != 0)
  | .tup ds => k (!ds.isEmpty)
  | .lst ds => k (!ds.isEmpty)
  | _ => False
theorem DVs.empty {K : PySem.W.Frag} {G : Hp} {ds : List D} {xs : List V} (q : DVs K G ds xs) : xs.isEmpty = ds.isEmpty := by
  cases ds with
  | nil =>
    have q : xs = [] := q
    subst q
    rfl
  | cons y ys =>
    obtain ⟨_, _, q, _⟩ := q
    subst q
    rfl
/-- a list that is looked at -/
theorem Lk.lst {K : PySem.W.Frag} {G U H : Hp} {μ : Mu} {ds : List D} {v : V} (b : Base K G U H μ) (h : Lk K G H (.lst ds) v) : ∃ a xs, v = .ref a ∧ SqL K H a xs ∧ DVs K G ds xs := by
  rcases h with ⟨a, xs, hv, h1, h2⟩ | ⟨p, x, hv, hh, hd⟩
  · exact ⟨a, xs, hv, b.sub.seq h1, h2⟩
  · cases x with
    | l es =>
      obtain ⟨xs, h1, h2⟩ := hh
      injection hd with hd
      subst hd
      exact ⟨p, xs, hv, SqL.of h1, h2⟩
    | k ks ds => cases hd
    | t ks ds => cases hd
    | no => exact hh.elim
    | d d => exact hh.elim
    | b i => exact hh.elim
theorem Lk.tup {K : PySem.W.Frag} {G U H : Hp} {μ : Mu} {ds : List D} {v : V} (b : Base K G U H μ) (h : Lk K G H (.tup ds) v) : ∃ a xs, v = .ref a ∧ SqT K H a xs ∧ DVs K G ds xs := by
  rcases h with ⟨a, xs, hv, h1, h2⟩ | ⟨p, x, hv, hh, hd⟩
  · exact ⟨a, xs, hv, same_t b.sub h1, h2⟩
  · cases x with
    | l es => cases hd
    | k ks ds => cases hd
    | t ks ds => cases hd
    | no => exact hh.elim
    | d d => exact hh.elim
    | b i => exact hh.elim
theorem Lk.dic {K : PySem.W.Frag} {G U H : Hp} {μ : Mu} {ks : List Key} {ds : List D} {v : V} (b : Base K G U H μ) (h : Lk K G H (.dic ks ds) v) : ∃ a xs, v = .ref a ∧ Rd H a (.dK (ks.zip xs)) ∧ ks.length = xs.length ∧ DVs K G ds xs := by
  rcases h with ⟨a, xs, hv, h1, h2⟩ | ⟨p, x, hv, hh, hd⟩
  · exact ⟨a, xs, hv, same_rd b.sub h1, h2⟩
  · cases x with
    | l es => cases hd
    | k es ds =>
      obtain ⟨xs, h1, h2, h3⟩ := hh
      injection hd with hd1 hd2
      subst hd1 hd2
      exact ⟨p, xs, hv, .inl h1, h2, h3⟩
    | t ks ds => cases hd
    | no => exact hh.elim
    | d d => exact hh.elim
    | b i => exact hh.elim
/-- what is flat is itself -/
theorem Lk.flat {K : PySem.W.Frag} {G H : Hp} {d : D} {v : V} (h : Lk K G H d v) : (d = .non → v = .non) ∧ (∀ b, d = .bl b → v = .bl b) ∧ (∀ i, d = .int i → v = .int i) ∧ (∀ x, d = .str x → v = .str x) ∧ (∀ n, d = .ty n → v = .ty n) ∧ (∀ a, d = .ref a → v = .ref a) := by
  rcases h with h | ⟨p, x, hv, hh, hd⟩
  · cases d with
    | non => exact ⟨fun _ => h, fun _ z => by (cases z), fun _ z => by (cases z), fun _ z => by (cases z), fun _ z => by (cases z), fun _ z => by (cases z)⟩
    | bl c => exact ⟨fun z => by (cases z), fun _ z => by (cases z; exact h), fun _ z => by (cases z), fun _ z => by (cases z), fun _ z => by (cases z), fun _ z => by (cases z)⟩
    | int i => exact ⟨fun z => by (cases z), fun _ z => by (cases z), fun _ z => by (cases z; exact h), fun _ z => by (cases z), fun _ z => by (cases z), fun _ z => by (cases z)⟩
    | str x => exact ⟨fun z => by (cases z), fun _ z => by (cases z), fun _ z => by (cases z), fun _ z => by (cases z; exact h), fun _ z => by (cases z), fun _ z => by (cases z)⟩
    | ty n => exact ⟨fun z => by (cases z), fun _ z => by (cases z), fun _ z => by (cases z), fun _ z => by (cases z), fun _ z => by (cases z; exact h), fun _ z => by (cases z)⟩
    | ref a => exact ⟨fun z => by (cases z), fun _ z => by (cases z), fun _ z => by (cases z), fun _ z => by (cases z), fun _ z => by (cases z), fun _ z => by (cases z; exact h)⟩
    | tup ds => exact ⟨fun z => by (cases z), fun _ z => by (cases z), fun _ z => by (cases z), fun _ z => by (cases z), fun _ z => by (cases z), fun _ z => by (cases z)⟩
    | lst ds => exact ⟨fun z => by (cases z), fun _ z => by (cases z), fun _ z => by (cases z), fun _ z => by (cases z), fun _ z => by (cases z), fun _ z => by (cases z)⟩
    | dic ks ds => exact ⟨fun z => by (cases z), fun _ z => by (cases z), fun _ z => by (cases z), fun _ z => by (cases z), fun _ z => by (cases z), fun _ z => by (cases z)⟩
    | dit ks ds => exact ⟨fun z => by (cases z), fun _ z => by (cases z), fun _ z => by (cases z), fun _ z => by (cases z), fun _ z => by (cases z), fun _ z => by (cases z)⟩
    | dlr => exact ⟨fun z => by (cases z), fun _ z => by (cases z), fun _ z => by (cases z), fun _ z => by (cases z), fun _ z => by (cases z), fun _ z => by (cases z)⟩
  · subst hd
    cases x with
    | l es => exact ⟨fun z => by (cases z), fun _ z => by (cases z), fun _ z => by (cases z), fun _ z => by (cases z), fun _ z => by (cases z), fun _ z => by (cases z)⟩
    | k ks ds => exact ⟨fun z => by (cases z), fun _ z => by (cases z), fun _ z => by (cases z), fun _ z => by (cases z), fun _ z => by (cases z), fun _ z => by (cases z)⟩
    | t ks ds => exact ⟨fun z => by (cases z), fun _ z => by (cases z), fun _ z => by (cases z), fun _ z => by (cases z), fun _ z => by (cases z), fun _ z => by (cases z)⟩
    | no => exact hh.elim
    | d d => exact hh.elim
    | b i => exact hh.elim
theorem Lk.int {K : PySem.W.Frag} {G H : Hp} {i : Int} {v : V} (h : Lk K G H (.int i) v) : v = .int i := h.flat.2.2.1 i rfl
theorem Lk.str {K : PySem.W.Frag} {G H : Hp} {i : Str} {v : V} (h : Lk K G H (.str i) v) : v = .str i := h.flat.2.2.2.1 i rfl
theorem Lk.bl {K : PySem.W.Frag} {G H : Hp} {i : Bool} {v : V} (h : Lk K G H (.bl i) v) : v = .bl i := h.flat.2.1 i rfl
theorem Lk.non {K : PySem.W.Frag} {G H : Hp} {v : V} (h : Lk K G H .non v) : v = .non := h.flat.1 rfl
theorem tru_ok {K : PySem.W.Frag} {G U H : Hp} {μ : Mu} {d : D} {v : V} {k : Bool → Prop} (b : Base K G U H μ) (h : Lk K G H d v) (hk : truD k d) : ∃ c, TruV K v H c ∧ k c := by
  cases d with
  | non => cases h.non; exact ⟨_, rfl, hk⟩
  | bl c => cases h.bl; exact ⟨_, rfl, hk⟩
  | int i => cases h.int; exact ⟨_, rfl, hk⟩
  | str x => cases h.str; exact ⟨_, ⟨hk.1, rfl⟩, hk.2⟩
  | tup ds =>
    obtain ⟨a, xs, hv, h1, h2⟩ := h.tup b
    subst hv
    exact ⟨_, .inr (.inl ⟨xs, h1, rfl⟩), by rw [h2.empty]; exact hk⟩
  | lst ds =>
    obtain ⟨a, xs, hv, h1, h2⟩ := h.lst b
    subst hv
    exact ⟨_, .inl ⟨xs, h1, rfl⟩, by rw [h2.empty]; exact hk⟩
  | dic ks ds => exact hk.elim
  | dit ks ds => exact hk.elim
  | dlr => exact hk.elim
  | ty n => exact hk.elim
  | ref a => exact hk.elim

section
variable {X : Cx} {e e1 e2 : Expr} {φ φ1 φ2 : PhiE} {τ τ1 τ2 : PhiT} {pos : Pos}
/-- truth of a value -/
def tT (φ : PhiE) : PhiT := fun s R => φ s fun r s1 => lk r s1 fun d => truD (fun b => R b s1) d
theorem dt_tru (h : PE X e (liftE X.K φ)) (he : ∀ whole, isTrue e X.env whole = (do let v ← whole; standAt e.pos; holding [v] (truthy v)) := by intro _; rfl) : PT X e (liftT X.K (tT φ)) :=
  (pt_truth h he).imp fun σ H Q ⟨G, U, s, R, hs, hr, k⟩ => by
    refine ⟨G, U, s, _, hs, hr, fun r1 s1 G1 H1 v1 q1 e1 hs1 hv1 => ?_⟩
    obtain ⟨G1', e1', hs1', p1⟩ := pin_ok hs1 hv1
    rw [← pin_lk] at q1
    obtain ⟨x, lx, q1⟩ := lk_ok hs1' p1 q1
    obtain ⟨c, hc, q⟩ := tru_ok hs1'.base lx q1
    exact ⟨c, hc, k c s1 G1' H1 q (e1.trans e1') hs1'⟩
/-- a comparison as a test -/
def tB (φ : PhiE) : PhiT := fun s R => φ s fun r s1 => match r with
  | .d (.bl b) => R b s1
  | _ => False
theorem tB_of {σ : L2.St} {H : Hp} {Q : Bool → Hp → Prop} (q : liftT X.K (tB φ) σ H Q) : liftE X.K φ σ H fun x H' => ∃ k, x = .bl k ∧ Q k H' := by
  obtain ⟨G, U, s, R, hs, hr, k⟩ := q
  refine ⟨G, U, s, _, hs, hr, fun r1 s1 G1 H1 v1 q1 e1 hs1 hv1 => ?_⟩
  cases r1 with
  | d d =>
    cases d with
    | bl b => cases hv1; exact ⟨b, rfl, k b s1 G1 H1 q1 e1 hs1⟩
    | _ => exact q1.elim
  | _ => exact q1.elim
theorem dt_cmp {op : CmpOp} {r : R2} {o : O2} (hr : OpR X (compareOp op) r) (hm : behindInMarks op e2 = false) (ho : OpS X.K r o) (h1 : PE X e1 (liftE X.K φ1)) (h2 : PE X e2 (liftE X.K φ2)) : PT X (.Compare e1 [op] [e2] pos) (liftT X.K (tB (eOp o φ1 φ2))) :=
  (pt_cmpR hr h1 h2 hm).imp fun σ H Q q => op_of ho (tB_of (φ := eOp o φ1 φ2) q)
def tAnd (a b : PhiT) : PhiT := fun s R => a s fun c s1 => if c = true then b s1 R else R false s1
def tOr (a b : PhiT) : PhiT := fun s R => a s fun c s1 => if c = true then R true s1 else b s1 R
def tNot (a : PhiT) : PhiT := fun s R => a s fun c s1 => R (!c) s1
theorem dw_and1 (h : PT X e (liftT X.K τ)) : PW X (.BoolOp .And [e] pos) (liftT X.K τ) := pw_and1 h
theorem dw_or1 (h : PT X e (liftT X.K τ)) : PW X (.BoolOp .Or [e] pos) (liftT X.K τ) := pw_or1 h
theorem dw_and {rest : List Expr} (h : PT X e (liftT X.K τ1)) (h2 : PW X (.BoolOp .And (e2 :: rest) pos) (liftT X.K τ2)) : PW X (.BoolOp .And (e :: e2 :: rest) pos) (liftT X.K (tAnd τ1 τ2)) :=
  (pw_and h h2).imp fun σ H Q ⟨G, U, s, R, hs, hr, k⟩ => by
    refine ⟨G, U, s, _, hs, hr, fun c s1 G1 H1 q1 e1 hs1 => ?_⟩
    cases c with
    | true => exact ⟨G1, U, s1, R, hs1, q1, fun b s' G' H' q e hs' => k b s' G' H' q (e1.trans e) hs'⟩
    | false => exact k false s1 G1 H1 q1 e1 hs1
theorem dw_or {rest : List Expr} (h : PT X e (liftT X.K τ1)) (h2 : PW X (.BoolOp .Or (e2 :: rest) pos) (liftT X.K τ2)) : PW X (.BoolOp .Or (e :: e2 :: rest) pos) (liftT X.K (tOr τ1 τ2)) :=
  (pw_or h h2).imp fun σ H Q ⟨G, U, s, R, hs, hr, k⟩ => by
    refine ⟨G, U, s, _, hs, hr, fun c s1 G1 H1 q1 e1 hs1 => ?_⟩
    cases c with
    | false => exact ⟨G1, U, s1, R, hs1, q1, fun b s' G' H' q e hs' => k b s' G' H' q (e1.trans e) hs'⟩
    | true => exact k true s1 G1 H1 q1 e1 hs1
theorem dt_not (h : PT X e (liftT X.K τ)) : PT X (.UnaryOp .Not e pos) (liftT X.K (tNot τ)) :=
  (pt_not h).imp fun σ H Q ⟨G, U, s, R, hs, hr, k⟩ => ⟨G, U, s, _, hs, hr, fun c s1 G1 H1 q1 e1 hs1 => k (!c) s1 G1 H1 q1 e1 hs1⟩
/-- .. as values that are True or False -/
def eAnd (a b : PhiE) : PhiE := fun s R => tB a s fun c s1 => if c = true then b s1 R else R (.d (.bl false)) s1
def eOr (a b : PhiE) : PhiE := fun s R => tB a s fun c s1 => if c = true then R (.d (.bl true)) s1 else b s1 R
def eNot (τ : PhiT) : PhiE := fun s R => τ s fun c s1 => R (.d (.bl !c)) s1
theorem tB_E {σ : L2.St} {H : Hp} {φ : PhiE} {s : S} {G U : Hp} {P : Bool → S → Prop} {Q : VK} (hs : St X.K G U H σ s) (h : tB φ s P) (k : ∀ c s1 G1 H1, P c s1 → Same G G1 → St X.K G1 U H1 σ s1 → Q (.bl c) H1) : liftE X.K φ σ H Q := by
  refine ⟨G, U, s, _, hs, h, fun r1 s1 G1 H1 v1 q1 e1 hs1 hv1 => ?_⟩
  cases r1 with
  | d d =>
    cases d with
    | bl b => cases hv1; exact k b s1 G1 H1 q1 e1 hs1
    | _ => exact q1.elim
  | _ => exact q1.elim
theorem de_one {op} (h : PE X e (liftE X.K φ)) : PE X (.BoolOp op [e] pos) (liftE X.K φ) := pe_one h
theorem de_and {rest : List Expr} (h : PE X e (liftE X.K φ1)) (h2 : PE X (.BoolOp .And (e2 :: rest) pos) (liftE X.K φ2)) : PE X (.BoolOp .And (e :: e2 :: rest) pos) (liftE X.K (eAnd φ1 φ2)) :=
  (pe_and h h2).imp fun σ H Q ⟨G, U, s, R, hs, hr, k⟩ => tB_E hs hr fun c s1 G1 H1 q1 e1 hs1 => ⟨c, rfl, by
    cases c with
    | true => exact ⟨G1, U, s1, R, hs1, q1, fun r s' G' H' v q e hs' => k r s' G' H' v q (e1.trans e) hs'⟩
    | false => exact k _ s1 G1 H1 _ q1 e1 hs1 rfl⟩
theorem de_or {rest : List Expr} (h : PE X e (liftE X.K φ1)) (h2 : PE X (.BoolOp .Or (e2 :: rest) pos) (liftE X.K φ2)) : PE X (.BoolOp .Or (e :: e2 :: rest) pos) (liftE X.K (eOr φ1 φ2)) :=
  (pe_or h h2).imp fun σ H Q ⟨G, U, s, R, hs, hr, k⟩ => tB_E hs hr fun c s1 G1 H1 q1 e1 hs1 => ⟨c, rfl, by
    cases c with
    | false => exact ⟨G1, U, s1, R, hs1, q1, fun r s' G' H' v q e hs' => k r s' G' H' v q (e1.trans e) hs'⟩
    | true => exact k _ s1 G1 H1 _ q1 e1 hs1 rfl⟩
theorem de_not (h : PE X e (liftE X.K φ)) : PE X (.UnaryOp .Not e pos) (liftE X.K (eNot (tB φ))) :=
  (pe_not h).imp fun σ H Q ⟨G, U, s, R, hs, hr, k⟩ => tB_E hs hr fun c s1 G1 H1 q1 e1 hs1 => ⟨c, rfl, k _ s1 G1 H1 _ q1 e1 hs1 rfl⟩
/-- a if t else b -/
def eIf (τ : PhiT) (a b : PhiE) : PhiE := fun s R => τ s fun c s1 => if c = true then a s1 R else b s1 R
theorem de_if {c : Expr} (hc : PT X c (liftT X.K τ)) (h1 : PE X e1 (liftE X.K φ1)) (h2 : PE X e2 (liftE X.K φ2)) : PE X (.IfExp c e1 e2 pos) (liftE X.K (eIf τ φ1 φ2)) :=
  (pe_ifExp hc h1 h2).imp fun σ H Q ⟨G, U, s, R, hs, hr, k⟩ => by
    refine ⟨G, U, s, _, hs, hr, fun c s1 G1 H1 q1 e1 hs1 => ?_⟩
    cases c with
    | true => exact ⟨G1, U, s1, R, hs1, q1, fun r s' G' H' v q e hs' => k r s' G' H' v q (e1.trans e) hs'⟩
    | false => exact ⟨G1, U, s1, R, hs1, q1, fun r s' G' H' v q e hs' => k r s' G' H' v q (e1.trans e) hs'⟩
end

/-! ### statements -/
section
variable {X : Cx} {e e1 e2 : Expr} {st : Stmt} {rest sts sts2 : List Stmt} {φ φ1 φ2 : PhiE} {τ : PhiT} {Φ Φ1 Φ2 : PhiS} {pos : Pos}
def sNil : PhiS := fun Δ s => Δ.nx s
def sSeq (a b : PhiS) : PhiS := fun Δ s => a { Δ with nx := b Δ } s
theorem ds_nil : PSs X [] (liftS X.K sNil) := pss_nil.imp fun E σ H ⟨G, U, s, Δ, hs, hr, k⟩ => k.nx s G H σ hr (Same.refl _) hs
theorem ds_one (h : PS X st (liftS X.K Φ)) : PSs X [st] (liftS X.K Φ) := pss_one h
theorem ds_cons (h : PS X st (liftS X.K Φ1)) (h2 : PSs X rest (liftS X.K Φ2)) : PSs X (st :: rest) (liftS X.K (sSeq Φ1 Φ2)) :=
  (pss_cons h h2).imp fun E σ H ⟨G, U, s, Δ, hs, hr, k⟩ => ⟨G, U, s, _, hs, hr, ⟨fun s' G' H' σ' q e hs' => ⟨G', U, s', Δ, hs', q, k.mono e⟩, k.bk, k.ct, k.rt⟩⟩
def sBreak : PhiS := fun Δ s => Δ.bk s
def sCont : PhiS := fun Δ s => Δ.ct s
theorem ds_pass : PS X (.Pass pos) (liftS X.K sNil) := ps_pass.imp fun E σ H ⟨G, U, s, Δ, hs, hr, k⟩ => k.nx s G H σ hr (Same.refl _) hs
theorem ds_break : PS X (.Break pos) (liftS X.K sBreak) := ps_break.imp fun E σ H ⟨G, U, s, Δ, hs, hr, k⟩ => k.bk s G H σ hr (Same.refl _) hs
theorem ds_cont : PS X (.Continue pos) (liftS X.K sCont) := ps_continue.imp fun E σ H ⟨G, U, s, Δ, hs, hr, k⟩ => k.ct s G H σ hr (Same.refl _) hs
/-- never come to -/
def sNever : PhiS := fun _ _ => False
theorem ds_never : PS X st (liftS X.K sNever) := ps_never.imp fun E σ H ⟨G, U, s, Δ, hs, hr, k⟩ => hr
def sDrop (φ : PhiE) : PhiS := fun Δ s => φ s fun _ s1 => Δ.nx s1
theorem ds_expr (h : PE X e (liftE X.K φ)) (hs : swapsWith e none pos.line X.env = pure false := by rfl) : PS X (.Expr e pos) (liftS X.K (sDrop φ)) :=
  (ps_expr h hs).imp fun E σ H ⟨G, U, s, Δ, hs, hr, k⟩ => ⟨G, U, s, _, hs, hr, fun r s' G' H' v q e hs' _ => k.nx s' G' H' σ q e hs'⟩
/-- return -/
def sRet (φ : PhiE) : PhiS := fun Δ s => φ s fun r s1 => match r with
  | .b i => Δ.rt (get s1.ρ i) s1.μ
  | r => Δ.rt r s1.μ
theorem ds_ret (h : PE X e (liftE X.K φ)) : PS X (.Return (some e) pos) (liftS X.K (sRet φ)) :=
  (ps_ret h).imp fun E σ H ⟨G, U, s, Δ, hs, hr, k⟩ => ⟨G, U, s, _, hs, hr, fun r s' G' H' v q e hs' hv => by
    have own : ∀ {r : Sl}, r.own = true → Δ.rt r s'.μ → RsOk X.K G' U H' σ s' v r → E.rt v H' := fun {r} ho q hv => by
      obtain ⟨p, e1, h1, h2, h3, h4, h5⟩ := (RsOk.own ho).mp hv
      exact k.rt _ _ G' H' v q e hs'.base ((Res.own ho).mpr ⟨p, e1, h1, h2, h3, h4⟩)
    cases r with
    | d d => exact k.rt _ _ G' H' v q e hs'.base hv
    | no => exact hv.elim
    | l ds => exact own rfl q hv
    | k ks ds => exact own rfl q hv
    | t ks ds => exact own rfl q hv
    | b i =>
      obtain ⟨ho, hv⟩ := hv
      obtain ⟨a, e1, oa, h1, h2, h3, h4⟩ := hs'.ownAt ho
      rw [hv] at e1
      injection e1 with e1
      injection e1 with e1
      exact k.rt _ _ G' H' v q e hs'.base ((Res.own ho).mpr ⟨a, e1, h1, h2, h3, h4⟩)⟩
def sRetN : PhiS := fun Δ s => Δ.rt (.d .non) s.μ
theorem ds_retN : PS X (.Return none pos) (liftS X.K sRetN) := ps_retN.imp fun E σ H ⟨G, U, s, Δ, hs, hr, k⟩ => k.rt _ _ G H _ hr (Same.refl _) hs.base rfl
def sIf (τ : PhiT) (a b : PhiS) : PhiS := fun Δ s => τ s fun c s1 => if c = true then a Δ s1 else b Δ s1
theorem ds_if (hc : PT X e (liftT X.K τ)) (h1 : PSs X sts (liftS X.K Φ1)) (h2 : PSs X sts2 (liftS X.K Φ2)) : PS X (.If e sts sts2 pos) (liftS X.K (sIf τ Φ1 Φ2)) :=
  (ps_if hc h1 h2).imp fun E σ H ⟨G, U, s, Δ, hs, hr, k⟩ => by
    refine ⟨G, U, s, _, hs, hr, fun c s1 G1 H1 q1 e1 hs1 => ?_⟩
    cases c with
    | true => exact ⟨G1, U, s1, Δ, hs1, q1, k.mono e1⟩
    | false => exact ⟨G1, U, s1, Δ, hs1, q1, k.mono e1⟩
/-- x = e: a list or dict that another slot owns is frozen; a new one becomes the slot's own -/
def st1 (i : Nat) (r : Sl) (s : S) (k : S → Prop) : Prop := match r with
  | .b j => fz (.b j) s fun d s2 => k (s2.set i (.d d))
  | r => k (s.set i r)
theorem st1_ok {K : PySem.W.Frag} {G U H : Hp} {σ : L2.St} {s : S} {v : V} {r : Sl} {i : Nat} {k : S → Prop} (hs : St K G U H σ s) (hv : RsOk K G U H σ s v r) (hk : st1 i r s k) : ∃ G' s', Same G G' ∧ St K G' U H (σ.set i (some v)) s' ∧ k s' := by
  have go : (∀ j, r ≠ .b j) → k (s.set i r) → ∃ G' s', Same G G' ∧ St K G' U H (σ.set i (some v)) s' ∧ k s' := fun hb hk => ⟨G, _, Same.refl _, hs.store hv hb, hk⟩
  cases r with
  | b j =>
    obtain ⟨G', e, h1, h2⟩ := frz_ok hs hv
    exact ⟨G', _, e, h1.setD h2, hk⟩
  | d d => exact go (fun j z => by cases z) hk
  | no => exact go (fun j z => by cases z) hk
  | l ds => exact go (fun j z => by cases z) hk
  | k ks ds => exact go (fun j z => by cases z) hk
  | t ks ds => exact go (fun j z => by cases z) hk
def sSet (i : Nat) (φ : PhiE) : PhiS := fun Δ s => φ s fun r s1 => st1 i r s1 Δ.nx
theorem ds_set {i : Nat} {x : Str} {pos' : Pos} (hN : X.N.Nodup) (hi : X.N[i]? = some x) (hx : Loc X.env.scope x) (h : PE X e (liftE X.K φ)) (hs : swapsWith e (some (.Name x pos')) pos.line X.env = pure false := by rfl)
    (hf : X.fn x = true ∨ X.env.scope.names.lookup x = some .local := by first | exact .inl rfl | exact .inr rfl | assumption) : PS X (.Assign [.Name x pos'] e pos) (liftS X.K (sSet i φ)) :=
  (ps_set (i := i) hN hi hx h hs hf).imp fun E σ H ⟨G, U, s, Δ, hs, hr, k⟩ => ⟨G, U, s, _, hs, hr, fun r s1 G1 H1 v q1 e1 hs1 hv1 => by
    obtain ⟨G', s', e', hs', q⟩ := st1_ok hs1 hv1 q1
    exact k.nx s' G' H1 _ q (e1.trans e') hs'⟩
/-- x op= e -/
def sAug (i : Nat) (o : O2) (φ : PhiE) : PhiS := fun Δ s => match get s.ρ i with
  | .d d0 => φ s fun r s1 => lk r s1 fun y => o d0 y fun r => st1 i r s1 Δ.nx
  | _ => False
def IpS (K : PySem.W.Frag) (r : TIp) (o : O2) : Prop := OpS K r o
theorem ds_aug {i : Nat} {x : Str} {op : Operator} {ti : TIp} {o : O2} {pos' : Pos} (hN : X.N.Nodup) (hi : X.N[i]? = some x) (hx : Loc X.env.scope x) (h : PE X e (liftE X.K φ)) (ho : PIp X op ti) (hs : OpS X.K ti o)
    (hf : X.fn x = true ∨ X.env.scope.names.lookup x = some .local := by first | exact .inl rfl | exact .inr rfl | assumption) : PS X (.AugAssign (.Name x pos') op e pos) (liftS X.K (sAug i o φ)) :=
  (ps_aug (i := i) hN hi hx h ho hf).imp fun E σ H ⟨G, U, s, Δ, hst, hr, k⟩ => by
    unfold sAug at hr
    cases e' : get s.ρ i with
    | d d0 =>
      rw [e'] at hr
      have hsl := hst.slot i
      rw [e'] at hsl
      obtain ⟨v0, h1, h2⟩ := hsl
      refine ⟨v0, of_join h1, G, U, s, _, hst, hr, fun r s1 G1 H1 v q1 e1 hs1 hv1 => ?_⟩
      obtain ⟨G1', e1', hs1', p1⟩ := pin_ok hs1 hv1
      rw [← pin_lk] at q1
      obtain ⟨y, ly, q1⟩ := lk_ok hs1' p1 q1
      refine hs G1' _ H1 s1.μ v0 v d0 y _ _ hs1'.out (.inl ((h2.mono e1).mono e1')) ly q1 (con_ok (R := fun r s1 => st1 i r s1 Δ.nx) hs1' (e1.trans e1') fun r s2 G2 H2 w q2 e2 hs2 hw => ?_)
      obtain ⟨G', s', e3, hs', q⟩ := st1_ok hs2 hw q2
      exact k.nx s' G' H2 _ q (e2.trans e3) hs'
    | _ => rw [e'] at hr; exact hr.elim
end

/-! ### targets -/
abbrev PhiG := D → S → (S → Prop) → Prop
abbrev PhiGs := List D → S → (S → Prop) → Prop
/-- slots but those at ws are as they were -/
def Only (ws : List Nat) (σ σ' : L2.St) : Prop := ∀ i, i ∉ ws → σ'[i]? = σ[i]?
theorem Only.refl {ws : List Nat} {σ : L2.St} : Only ws σ σ := fun _ _ => rfl
theorem Only.trans {ws us : List Nat} {σ σ1 σ2 : L2.St} (a : Only ws σ σ1) (b : Only us σ1 σ2) : Only (ws ++ us) σ σ2 := fun i h => by
  rw [List.mem_append] at h
  exact (b i fun z => h (.inr z)).trans (a i fun z => h (.inl z))
def liftG (K : PySem.W.Frag) (ws : List Nat) (γ : PhiG) : TG := fun v σ H Q => ∃ G U s d R, St K G U H σ s ∧ DV K G d v ∧ γ d s R ∧ ∀ s' σ' G' H', R s' → Same G G' → St K G' U H' σ' s' → Only ws σ σ' → Q σ' H'
def liftGs (K : PySem.W.Frag) (ws : List Nat) (γ : PhiGs) : TGs := fun vs σ H Q => ∃ G U s ds R, St K G U H σ s ∧ DVs K G ds vs ∧ γ ds s R ∧ ∀ s' σ' G' H', R s' → Same G G' → St K G' U H' σ' s' → Only ws σ σ' → Q σ' H'
theorem _root_.L2.PG.imp {X : Cx} {tg : Expr} {t t' : TG} (h : PG X tg t) (i : ∀ v σ H Q, t' v σ H Q → t v σ H Q) : PG X tg t' := ⟨fun pins s σ H v u Q I r q => h.run pins s σ H v u Q I r (i v σ H Q q)⟩
theorem _root_.L2.PGs.imp {X : Cx} {tg : List Expr} {t t' : TGs} (h : PGs X tg t) (i : ∀ v σ H Q, t' v σ H Q → t v σ H Q) : PGs X tg t' := ⟨fun pins s σ H v u Q I r q => h.run pins s σ H v u Q I r (i v σ H Q q)⟩
section
variable {X : Cx} {e : Expr} {es : List Expr} {γ : PhiG} {γs : PhiGs} {pos : Pos} {φ : PhiE} {ws us : List Nat}
def gN (i : Nat) : PhiG := fun d s R => R (s.set i (.d d))
theorem dg_n {i : Nat} {x : Str} (hN : X.N.Nodup) (hi : X.N[i]? = some x) (hx : Loc X.env.scope x) (hf : X.fn x = true ∨ X.env.scope.names.lookup x = some .local := by first | exact .inl rfl | exact .inr rfl | assumption) : PG X (.Name x pos) (liftG X.K [i] (gN i)) :=
  (pg_name (i := i) hN hi hx hf).imp fun v σ H Q ⟨G, U, s, d, R, hs, hd, hr, k⟩ => k _ _ G H hr (Same.refl _) (hs.setD hd) fun j hj => List.getElem?_set_ne (fun z => hj (by simp [z]))
def gsNil : PhiGs := fun ds s R => match ds with
  | [] => R s
  | _ => False
def gsCons (γ : PhiG) (γs : PhiGs) : PhiGs := fun ds s R => match ds with
  | d :: r => γ d s fun s1 => γs r s1 R
  | [] => False
theorem dgs_nil : PGs X [] (liftGs X.K [] gsNil) := pgs_nil.imp fun vs σ H Q ⟨G, U, s, ds, R, hs, hd, hr, k⟩ => by
  cases ds with
  | nil => exact ⟨hd, k s σ G H hr (Same.refl _) hs Only.refl⟩
  | cons d r => exact hr.elim
theorem dgs_cons (h1 : PG X e (liftG X.K ws γ)) (h2 : PGs X es (liftGs X.K us γs)) (hs : (assignEach (e :: es) X.env).map (·.2) = assign e X.env :: (assignEach es X.env).map (·.2) := by rfl) : PGs X (e :: es) (liftGs X.K (ws ++ us) (gsCons γ γs)) :=
  (pgs_cons h1 h2 hs).imp fun vs σ H Q ⟨G, U, s, ds, R, hs, hd, hr, k⟩ => by
    cases ds with
    | nil => exact hr.elim
    | cons d r =>
      obtain ⟨v, vr, e1, h3, h4⟩ := hd
      exact ⟨v, vr, e1, G, U, s, d, _, hs, h3, hr, fun s' σ' G' H' q e hs' o1 => ⟨G', U, s', r, R, hs', h4.mono e, q, fun s2 σ2 G2 H2 q2 e2 hs2 o2 => k s2 σ2 G2 H2 q2 (e.trans e2) hs2 (o1.trans o2)⟩⟩
def gT (n : Nat) (γs : PhiGs) : PhiG := fun d s R => match d with
  | .tup ds => if ds.length = n then γs ds s R else False
  | _ => False
theorem dg_t {k n : Nat} (hc : X.calm = true) (h : PGs X es (liftGs X.K ws γs)) (hn : (assignEach es X.env).length = n := by rfl) (hst : (assignEach es X.env).findIdx? (·.1) = none := by rfl) : PG X (.Tuple es k pos) (liftG X.K ws (gT n γs)) :=
  (pg_tup hc h hn hst).imp fun v σ H Q ⟨G, U, s, d, R, hs, hd, hr, k⟩ => by
    cases d with
    | tup ds =>
      obtain ⟨a, xs, e1, h1, h2⟩ := hd
      unfold gT at hr
      simp only at hr
      by_cases hl : ds.length = n
      · rw [if_pos hl] at hr
        exact ⟨a, xs, e1, same_t hs.base.sub h1, h2.len.symm.trans hl, G, U, s, ds, R, hs, h2, hr, k⟩
      · rw [if_neg hl] at hr
        exact hr.elim
    | _ => exact hr.elim
/-- a, b = e -/
def sAsg (φ : PhiE) (γ : PhiG) : PhiS := fun Δ s => φ s fun r s1 => fz r s1 fun d s2 => γ d s2 Δ.nx
theorem ds_asg {tg : Expr} (he : PE X e (liftE X.K φ)) (hg : PG X tg (liftG X.K ws γ)) (hs : swapsWithSole [tg] e pos.line X.env = pure false := by rfl) (hw : swappedStores [tg] e X.env = pure none := by rfl)
    (h1 : (assignEach [tg] X.env).map (·.2) = [assign tg X.env] := by rfl) : PS X (.Assign [tg] e pos) (liftS X.K (sAsg φ γ)) :=
  (ps_asg he hg hs hw h1).imp fun E σ H ⟨G, U, s, Δ, hs, hr, k⟩ => ⟨G, U, s, _, hs, hr, fun r s1 G1 H1 v q1 e1 hs1 hv1 => by
    obtain ⟨G1', e1', hs1', d1⟩ := frz_ok hs1 hv1
    exact ⟨G1', U, _, _, Δ.nx, hs1', d1, q1, fun s' σ' G' H' q e hs' _ => k.nx s' G' H' σ' q ((e1.trans e1').trans e) hs'⟩⟩
end

/-! ### loops -/
/-- what is walked: the trees in their order -/
def forL (γ : PhiG) (Φ : PhiS) (Δ : DE) : List D → S → Prop
  | [], s => Δ.nx s
  | d :: ds, s => γ d s fun s1 => Φ { nx := forL γ Φ Δ ds, ct := forL γ Φ Δ ds, bk := Δ.nx, rt := Δ.rt } s1
/-- iterables: π gives the list of what comes -/
abbrev PhiI := S → (List D → S → Prop) → Prop
/-- an iterator that gives trees, whatever happens in between -/
structure Gives (K : PySem.W.Frag) (J : It) (G : Hp) (ds : List D) : Prop where
  go : ∀ i H G' U μ, i < ds.length → Same G G' → Base K G' U H μ → J.go i H
  yld : ∀ i H G' U μ x H', (h : i < ds.length) → Same G G' → Base K G' U H μ → J.yld i H x H' → ∃ G'', Same G' G'' ∧ DV K G'' ds[i] x ∧ ∀ (σ : L2.St) (s : S), s.μ = μ → St K G' U H σ s → St K G'' U H' σ s
  stop : ∀ H G' U μ, Same G G' → Base K G' U H μ → J.stop ds.length H
def liftI (K : PySem.W.Frag) (π : PhiI) : TI := fun σ H R => ∃ G U s P, St K G U H σ s ∧ π s P ∧ ∀ ds s' G' H' J, P ds s' → Same G G' → St K G' U H' σ s' → Gives K J G' ds → R J H'
theorem _root_.L2.PI.imp {X : Cx} {tg e : Expr} {t t' : TI} (h : PI X tg e t) (i : ∀ σ H R, t' σ H R → t σ H R) : PI X tg e t' := ⟨fun pins s σ H R I q => h.run pins s σ H R I (i σ H R q)⟩
def sFor (π : PhiI) (γ : PhiG) (Φ : PhiS) : PhiS := fun Δ s => π s fun ds s1 => forL γ Φ Δ ds s1
section
variable {X : Cx} {e tg : Expr} {γ : PhiG} {π : PhiI} {Φ : PhiS} {pos : Pos} {body : List Stmt} {φ : PhiE} {τ : PhiT} {ws : List Nat}
theorem ds_for (hp : PassesOwn (model X.prog X.w) X.A X.env X.xe) (hc : X.calm = true) (hi : PI X tg e (liftI X.K π)) (hg : PG X tg (liftG X.K ws γ)) (hb : PSs X body (liftS X.K Φ)) (hs : ∀ x, foldedSetIterable e X.env x = pure x := by intro _; rfl) :
    PS X (.For tg e body [] pos) (liftS X.K (sFor π γ Φ)) :=
  (ps_for hp hc hi hg hb hs).imp fun E σ H ⟨G, U, s, Δ, hs, hr, k⟩ => by
    refine ⟨G, U, s, _, hs, hr, fun ds s1 G1 H1 J q1 e1 hs1 gv => ?_⟩
    refine ⟨fun i m σ' H' => ∃ s' G', m = ds.length - i ∧ i ≤ ds.length ∧ Same G1 G' ∧ St X.K G' U H' σ' s' ∧ forL γ Φ Δ (ds.drop i) s', ⟨ds.length, s1, G1, by simp, Nat.zero_le _, Same.refl _, hs1, by simpa using q1⟩, ?_⟩
    rintro i m σ' H' ⟨s', G', rfl, hi', e', hs', q⟩
    by_cases hlt : i < ds.length
    · rw [List.drop_eq_getElem_cons hlt] at q
      refine .inr ⟨gv.go i H' G' U s'.μ hlt e' hs'.base, fun σ2 H2 => ∃ s2 G2, Same G1 G2 ∧ St X.K G2 U H2 σ2 s2 ∧ forL γ Φ Δ (ds.drop (i + 1)) s2, fun σ2 H2 ⟨s2, G2, e2, hs2, q2⟩ => ⟨ds.length - (i + 1), by omega, s2, G2, rfl, hlt, e2, hs2, q2⟩, fun x H2 y => ?_⟩
      obtain ⟨G2, e2, dv, st⟩ := gv.yld i H' G' U s'.μ x H2 hlt e' hs'.base y
      refine ⟨G2, U, s', ds[i], _, st σ' s' rfl hs', dv, q, fun s3 σ3 G3 H3 q3 e3 hs3 _ => ?_⟩
      have e13 : Same G1 G3 := (e'.trans e2).trans e3
      refine ⟨G3, U, s3, _, hs3, q3, ⟨fun s4 G4 H4 σ4 q4 e4 hs4 => ⟨s4, G4, e13.trans e4, hs4, q4⟩, fun s4 G4 H4 σ4 q4 e4 hs4 => k.nx s4 G4 H4 σ4 q4 ((e1.trans e13).trans e4) hs4, fun s4 G4 H4 σ4 q4 e4 hs4 => ⟨s4, G4, e13.trans e4, hs4, q4⟩, fun r μ' G4 H4 v q4 e4 b hv => k.rt r μ' G4 H4 v q4 ((e1.trans e13).trans e4) b hv⟩⟩
    · have : i = ds.length := by omega
      subst this
      rw [List.drop_length] at q
      exact .inl ⟨gv.stop H' G' U s'.μ e' hs'.base, k.nx s' G' H' σ' q (e1.trans e') hs'⟩
/-- while -/
def whN (τ : PhiT) (Φ : PhiS) (Δ : DE) : Nat → S → Prop
  | 0, _ => False
  | n + 1, s => τ s fun b s1 => if b = true then Φ { nx := whN τ Φ Δ n, ct := whN τ Φ Δ n, bk := Δ.nx, rt := Δ.rt } s1 else Δ.nx s1
def sWhile (τ : PhiT) (Φ : PhiS) : PhiS := fun Δ s => ∃ n, whN τ Φ Δ n s
theorem ds_while (hp : PassesOwn (model X.prog X.w) X.A X.env X.xe) (hc : PT X e (liftT X.K τ)) (hb : PSs X body (liftS X.K Φ)) : PS X (.While e body [] pos) (liftS X.K (sWhile τ Φ)) :=
  (ps_while hp hc hb).imp fun E σ H ⟨G, U, s, Δ, hs, ⟨n, hr⟩, k⟩ => by
    refine ⟨fun m σ' H' => ∃ s' G', Same G G' ∧ St X.K G' U H' σ' s' ∧ whN τ Φ Δ m s', ⟨n, s, G, Same.refl _, hs, hr⟩, ?_⟩
    rintro m σ' H' ⟨s', G', e', hs', q⟩
    cases m with
    | zero => exact q.elim
    | succ m =>
      refine ⟨G', U, s', _, hs', q, fun b s1 G1 H1 q1 e1 hs1 => ?_⟩
      cases b with
      | true =>
        refine ⟨fun σ2 H2 => ∃ s2 G2, Same G G2 ∧ St X.K G2 U H2 σ2 s2 ∧ whN τ Φ Δ m s2, fun σ2 H2 ⟨s2, G2, e2, hs2, q2⟩ => ⟨m, Nat.lt_succ_self _, s2, G2, e2, hs2, q2⟩, G1, U, s1, _, hs1, q1, ?_⟩
        have eg := e'.trans e1
        exact ⟨fun s4 G4 H4 σ4 q4 e4 hs4 => ⟨s4, G4, eg.trans e4, hs4, q4⟩, fun s4 G4 H4 σ4 q4 e4 hs4 => k.nx s4 G4 H4 σ4 q4 (eg.trans e4) hs4, fun s4 G4 H4 σ4 q4 e4 hs4 => ⟨s4, G4, eg.trans e4, hs4, q4⟩, fun r μ' G4 H4 v q4 e4 b hv => k.rt r μ' G4 H4 v q4 (eg.trans e4) b hv⟩
      | false => exact k.nx s1 G1 H1 _ q1 (e'.trans e1) hs1
end
end DL
/-! DL4: what is walked, calls of defs, a def's promise, displays, comprehensions. -/
namespace DL
open PySem PySem.Spec PyProof.Rows L2

/-! ### iterables -/
def iSeq (K : PySem.W.Frag) (tl : TE) : TI := fun σ H R => tl σ H fun x H1 => (∃ a, x = .ref a ∧ (∃ xs, SqL K H1 a xs) ∧ R (Itl K a) H1) ∨ (∃ a, x = .ref a ∧ (∃ xs, SqT K H1 a xs) ∧ R (Itt K a) H1) ∨ ∃ z, x = .str z ∧ R (Its z) H1
theorem pi_seq {X : Cx} {tg l : Expr} {tl : TE} (hl : PE X l tl) : PI X tg l (iSeq X.K tl) := by
  refine ⟨fun pins s σ H R I h => ?_⟩
  refine thn (hl.run pins s σ H _ I h) fun v s1 ⟨x, H1, I1, r1, q1⟩ => ?_
  rcases q1 with ⟨a, e, ⟨xs, hq⟩, q⟩ | ⟨a, e, ⟨xs, hq⟩, q⟩ | ⟨z, e, q⟩
  · subst e
    cases r1
    obtain ⟨its, rv, p, hz⟩ := I1.list hq
    refine wpAny_pyIter_list p.isList ?_
    refine ⟨s1.heap.objs.size, [s1.heap.objs.size], _, _, H1, rfl, I1.kept (t' := s1.toks) fun b o e => Heap.get?_push_of_some _ e, turn_list a _, ⟨_, Heap.get?_push_size _ rfl, rfl, rfl⟩, fun b hb => ?_, q⟩
    have e : b = s1.heap.objs.size := by simpa using hb
    subst e
    exact I1.fpOk (Nat.le_refl _) (I1.hok.fresh (Nat.le_refl _))
  · subst e
    cases r1
    obtain ⟨its, rv, p, hz⟩ := I1.tuple hq
    refine wpAny_pyIter_tuple (show s1.heap.IsTuple a its.toArray from p) ?_
    refine ⟨s1.heap.objs.size, [s1.heap.objs.size], _, _, H1, rfl, I1.kept (t' := s1.toks) fun b o e => Heap.get?_push_of_some _ e, turn_tuple a _, ⟨_, Heap.get?_push_size _ rfl, rfl, rfl⟩, fun b hb => ?_, q⟩
    have e : b = s1.heap.objs.size := by simpa using hb
    subst e
    exact I1.fpOk (Nat.le_refl _) (I1.hok.fresh (Nat.le_refl _))
  · subst e
    obtain ⟨t, rfl⟩ := r1
    cases ha : z.cps.all (· < 128)
    · exact wpAny_pyIter_wide ha (pi_one (tk := s1.toks) I1 _ (turn_str _ z t "str_iterator" (.inr rfl)) ⟨_, Heap.get?_push_size _ rfl, rfl, rfl⟩ q)
    · exact wpAny_pyIter_ascii ha (pi_one (tk := s1.toks) I1 _ (turn_str _ z t "str_ascii_iterator" (.inl rfl)) ⟨_, Heap.get?_push_size _ rfl, rfl, rfl⟩ q)
/-- the trees of what is walked -/
def itemsOf : D → (List D → Prop) → Prop
  | .tup ds, k => k ds
  | .lst ds, k => k ds
  | .str x, k => k (x.cps.toList.map fun c => .str ⟨#[c]⟩)
  | _, _ => False
def rng (lo : Int) (n : Nat) : List D := (List.range n).map fun i : Nat => D.int (lo + (i : Int))
def iE (φ : PhiE) : PhiI := fun s P => φ s fun r s1 => fz r s1 fun d s2 => itemsOf d fun ds => P ds s2
section
variable {K : PySem.W.Frag} {G U H : Hp} {ds : List D} {xs : List V} {a : Addr}
theorem gives_list (h : SqL K G a xs) (hd : DVs K G ds xs) : Gives K (Itl K a) G ds := by
  refine ⟨fun i H G' U μ hi e b => ?_, fun i H G' U μ x H' hi e b y => ?_, fun H G' U μ e b => ?_⟩
  · have hi' : i < xs.length := hd.len ▸ hi
    exact ⟨xs, xs[i], b.sub.seq (e.seq h), List.getElem?_eq_getElem hi'⟩
  · obtain ⟨rfl, y⟩ := y
    obtain ⟨v, hv, dv⟩ := hd.get (List.getElem?_eq_getElem hi)
    have := (y xs (b.sub.seq (e.seq h))).symm.trans hv
    injection this with this
    subst this
    exact ⟨G', Same.refl _, dv.mono e, fun σ s hμ hs => hs⟩
  · exact ⟨xs, b.sub.seq (e.seq h), by rw [hd.len]; exact Nat.le_refl _⟩
theorem gives_tup (h : SqT K G a xs) (hd : DVs K G ds xs) : Gives K (Itt K a) G ds := by
  refine ⟨fun i H G' U μ hi e b => ?_, fun i H G' U μ x H' hi e b y => ?_, fun H G' U μ e b => ?_⟩
  · have hi' : i < xs.length := hd.len ▸ hi
    exact ⟨xs, xs[i], same_t b.sub (same_t e h), List.getElem?_eq_getElem hi'⟩
  · obtain ⟨rfl, y⟩ := y
    obtain ⟨v, hv, dv⟩ := hd.get (List.getElem?_eq_getElem hi)
    have := (y xs (same_t b.sub (same_t e h))).symm.trans hv
    injection this with this
    subst this
    exact ⟨G', Same.refl _, dv.mono e, fun σ s hμ hs => hs⟩
  · exact ⟨xs, same_t b.sub (same_t e h), by rw [hd.len]; exact Nat.le_refl _⟩
theorem gives_str {z : Str} : Gives K (Its z) G (z.cps.toList.map fun c => .str ⟨#[c]⟩) := by
  refine ⟨fun i H G' U μ hi e b => ?_, fun i H G' U μ x H' hi e b y => ?_, fun H G' U μ e b => ?_⟩
  · show i < z.cps.size
    simpa using hi
  · obtain ⟨rfl, c, hc, y⟩ := y
    subst y
    refine ⟨G', Same.refl _, ?_, fun σ s hμ hs => hs⟩
    have hi' : i < z.cps.size := by simpa using hi
    have e1 : z.cps[i] = c := by
      rw [Array.getElem?_eq_getElem hi'] at hc
      exact Option.some.inj hc
    rw [List.getElem_map]
    show V.str ⟨#[c]⟩ = V.str ⟨#[z.cps.toList[i]]⟩
    rw [Array.getElem_toList, e1]
  · show z.cps.size ≤ _
    simp
theorem gives_rng {lo : Int} {n : Nat} : Gives K (Itr lo n) G (rng lo n) := by
  refine ⟨fun i H G' U μ hi e b => ?_, fun i H G' U μ x H' hi e b y => ?_, fun H G' U μ e b => ?_⟩
  · show i < n
    simpa [rng] using hi
  · obtain ⟨rfl, y⟩ := y
    subst y
    refine ⟨G', Same.refl _, ?_, fun σ s hμ hs => hs⟩
    have e2 : (rng lo n)[i] = .int (lo + (i : Int)) := by simp [rng]
    rw [e2]
    rfl
  · show n ≤ _
    simp [rng]
end
section
variable {X : Cx} {e tg : Expr} {φ φ1 φ2 : PhiE} {pos p : Pos}
theorem di_e (h : PE X e (liftE X.K φ)) : PI X tg e (liftI X.K (iE φ)) :=
  (pi_seq h).imp fun σ H R ⟨G, U, s, P, hs, hr, k⟩ => ⟨G, U, s, _, hs, hr, fun r s1 G1 H1 v q1 e1 hs1 hv1 => by
    obtain ⟨G1', e1', hs1', d1⟩ := frz_ok hs1 hv1
    have q1 : itemsOf (frz s1 r).1 fun ds => P ds (frz s1 r).2 := q1
    generalize (frz s1 r).1 = d at q1 d1
    cases d with
    | tup ds =>
      obtain ⟨a, xs, hv, h1, h2⟩ := d1
      exact .inr (.inl ⟨a, hv, ⟨xs, same_t hs1'.base.sub h1⟩, k ds _ G1' H1 _ q1 (e1.trans e1') hs1' (gives_tup h1 h2)⟩)
    | lst ds =>
      obtain ⟨a, xs, hv, h1, h2⟩ := d1
      exact .inl ⟨a, hv, ⟨xs, hs1'.base.sub.seq h1⟩, k ds _ G1' H1 _ q1 (e1.trans e1') hs1' (gives_list h1 h2)⟩
    | str z => exact .inr (.inr ⟨z, d1, k _ _ G1' H1 _ q1 (e1.trans e1') hs1' gives_str⟩)
    | _ => exact q1.elim⟩
/-- range(n), range(a, b) -/
def iR1 (ψ : PhiA) : PhiI := fun s P => ψ s fun ds s1 => match ds with
  | [.int j] => (-(2 ^ 62) ≤ j ∧ j < 2 ^ 62) ∧ P (rng 0 j.toNat) s1
  | _ => False
def iR2 (ψ : PhiA) : PhiI := fun s P => ψ s fun ds s1 => match ds with
  | [.int i, .int j] => (-(2 ^ 62) ≤ i ∧ i < 2 ^ 62 ∧ -(2 ^ 62) ≤ j ∧ j < 2 ^ 62) ∧ P (rng i (j - i).toNat) s1
  | _ => False
theorem DVs.int1 {K : PySem.W.Frag} {G : Hp} {i : Int} {vs : List V} (h : DVs K G [.int i] vs) : vs = [.int i] := by
  obtain ⟨x, r, e, h1, h2⟩ := h
  have h1 : x = .int i := h1
  have h2 : r = [] := h2
  rw [e, h1, h2]
theorem DVs.int2 {K : PySem.W.Frag} {G : Hp} {i j : Int} {vs : List V} (h : DVs K G [.int i, .int j] vs) : vs = [.int i, .int j] := by
  obtain ⟨x, r, e, h1, h2⟩ := h
  have h1 : x = .int i := h1
  rw [e, h1, DVs.int1 h2]
theorem di_r1 {a : Expr} {ψ : PhiA} (hg : Gl X "range") (hm : X.mg "range" = none) (ha : PA X [a] (liftA X.K ψ)) (hs : starEach [a] X.env = [(false, eval a X.env)] := by rfl) : PI X tg (.Call (.Name "range" p) [a] [] pos) (liftI X.K (iR1 ψ)) :=
  (pi_range1 hg hm ha hs).imp fun σ H R ⟨G, U, s, P, hs, hr, k⟩ => ⟨G, U, s, _, hs, hr, fun ds s1 G1 H1 vs q1 e1 hs1 dv => by
    split at q1
    · rename_i j
      exact ⟨j, dv.int1, q1.1.1, q1.1.2, k _ s1 G1 H1 _ q1.2 e1 hs1 gives_rng⟩
    · exact q1.elim⟩
theorem di_r2 {a b : Expr} {ψ : PhiA} (hg : Gl X "range") (hm : X.mg "range" = none) (ha : PA X [a, b] (liftA X.K ψ)) (hs : starEach [a, b] X.env = [(false, eval a X.env), (false, eval b X.env)] := by rfl) (hs2 : starEach [b] X.env = [(false, eval b X.env)] := by rfl) : PI X tg (.Call (.Name "range" p) [a, b] [] pos) (liftI X.K (iR2 ψ)) :=
  (pi_range2 hg hm ha hs hs2).imp fun σ H R ⟨G, U, s, P, hs, hr, k⟩ => ⟨G, U, s, _, hs, hr, fun ds s1 G1 H1 vs q1 e1 hs1 dv => by
    split at q1
    · rename_i i j
      exact ⟨i, j, dv.int2, q1.1, k _ s1 G1 H1 _ q1.2 e1 hs1 gives_rng⟩
    · exact q1.elim⟩
end

/-! ### displays -/
section
variable {X : Cx} {es : List Expr} {ψ : PhiA} {pos : Pos}
theorem DVs.sz {K : PySem.W.Frag} {G : Hp} {ds : List D} {vs : List V} (h : DVs K G ds vs) (hl : ds.length ≤ sizeLine) : vs.length ≤ sizeLine := h.len ▸ hl
/-- a new object, its parts trees -/
theorem St.new {K : PySem.W.Frag} {G U H : Hp} {σ : L2.St} {s : S} {p : Addr} {o : HO} (h : St K G U H σ s) (hp : H p = none) : St K G U (upd H p o) σ s ∧ G p = none ∧ U p = none ∧ s.μ p = none ∧ ∀ i, ¬ OwnAt σ s.ρ i p := by
  have hG : G p = none := h.base.sub.free hp
  have hU : U p = none := h.base.usub.free hp
  have hM : s.μ p = none := by
    cases e : s.μ p with
    | none => rfl
    | some o =>
      obtain ⟨z, q⟩ := (h.base.mu p o e).2.there
      rw [hp] at q
      cases q
  have hO : ∀ i, ¬ OwnAt σ s.ρ i p := fun i hi => by
    obtain ⟨o, q⟩ := (h.own_facts hi).2.2.2.there
    rw [hp] at q
    cases q
  refine ⟨⟨⟨fun b u e => ?_, fun b u e => ?_, h.base.ug, fun b u e => ?_⟩, h.len, fun i => ?_, h.dis⟩, hG, hU, hM, hO⟩
  · rw [upd_ne (ne_of_none e hG)]
    exact h.base.sub b u e
  · rw [upd_ne (ne_of_none e hU)]
    exact h.base.usub b u e
  · obtain ⟨h1, h2⟩ := h.base.mu b u e
    refine ⟨h1, h2.mono (Same.refl _) ?_⟩
    rw [upd_ne]
    intro z
    rw [z, hM] at e
    cases e
  · cases hx : (get s.ρ i).own with
    | true =>
      obtain ⟨a, e1, oa, h1, h2, h3, h4⟩ := h.ownAt hx
      refine .ofOwn ⟨a, join_of e1, h1, h2, h3, h4.mono (Same.refl _) ?_⟩
      rw [upd_ne]
      intro z
      rw [z] at oa
      exact hO i oa
    | false =>
      have hs := h.slot i
      cases e' : get s.ρ i with
      | no => exact trivial
      | d d => rw [e'] at hs; exact hs
      | b j => rw [e'] at hs; exact hs.elim
      | l ds => rw [e'] at hx; cases hx
      | k ks ds => rw [e'] at hx; cases hx
      | t ks ds => rw [e'] at hx; cases hx
theorem St.newD {K : PySem.W.Frag} {G U H : Hp} {σ : L2.St} {s : S} {p : Addr} {o : HO} (h : St K G U H σ s) (hp : H p = none) : Same G (upd G p o) ∧ St K (upd G p o) U (upd H p o) σ s := by
  obtain ⟨h1, h2, h3, h4, h5⟩ := h.new (o := o) hp
  exact ⟨same_new h2, h1.freeze upd_same h2 h3 h4 h5⟩
def eTup (ψ : PhiA) : PhiE := fun s R => ψ s fun ds s1 => ds.length ≤ sizeLine ∧ R (.d (.tup ds)) s1
theorem de_tup {k} (h : PA X es (liftA X.K ψ)) : PE X (.Tuple es k pos) (liftE X.K (eTup ψ)) :=
  (pe_tup h).imp fun σ H Q ⟨G, U, s, R, hs, hr, k⟩ => ⟨G, U, s, _, hs, hr, fun ds s1 G1 H1 vs q1 e1 hs1 dv => ⟨dv.sz q1.1, fun p hp => by
    obtain ⟨e2, hs2⟩ := hs1.newD (o := .tup vs) hp
    exact k _ s1 _ _ _ q1.2 (e1.trans e2) hs2 ⟨p, vs, rfl, SqT.of upd_same, dv.mono e2⟩⟩⟩
def eLst (ψ : PhiA) : PhiE := fun s R => ψ s fun ds s1 => ds.length ≤ sizeLine ∧ R (.l ds) s1
theorem de_lst (h : PA X es (liftA X.K ψ)) : PE X (.List es pos) (liftE X.K (eLst ψ)) :=
  (pe_lst h).imp fun σ H Q ⟨G, U, s, R, hs, hr, k⟩ => ⟨G, U, s, _, hs, hr, fun ds s1 G1 H1 vs q1 e1 hs1 dv => ⟨dv.sz q1.1, fun p hp => by
    obtain ⟨h1, h2, h3, h4, h5⟩ := hs1.new (o := .lst vs) hp
    exact k _ s1 G1 _ _ q1.2 e1 h1 ⟨p, rfl, h2, h3, h4, ⟨vs, upd_same, dv⟩, h5⟩⟩⟩
end

/-! ### a def's promise, a call -/
abbrev FD := List D → Mu → (Sl → Mu → Prop) → Prop
def spD (K : PySem.W.Frag) (n : Nat) (F : FD) : Sp := fun vs H Q _ => ∃ G U ds μ R, Base K G U H μ ∧ DVs K G ds vs ∧ ds.length = n ∧ F ds μ R ∧ ∀ r v μ' G' H', R r μ' → Same G G' → Base K G' U H' μ' → Res K G' U H' μ' v r → Q v H'
theorem spD_len {K : PySem.W.Frag} {n : Nat} {F : FD} {vs : List V} {H : Hp} {Q : VK} {E : XK} (h : spD K n F vs H Q E) : vs.length = n := by
  obtain ⟨G, U, ds, μ, R, hb, hd, hl, _⟩ := h
  exact hd.len.symm.trans hl
/-- the frame at the entry -/
def ρ0 (m : Nat) (ds : List D) : List Sl := ds.map Sl.d ++ List.replicate (m - ds.length) .no
/-- what a body does, as a promise -/
def body (m : Nat) (Φ : PhiS) : FD := fun ds μ R => Φ { nx := fun s => R (.d .non) s.μ, rt := R } ⟨ρ0 m ds, μ⟩
theorem get_app_l : ∀ {l m : List Sl} {i : Nat}, i < l.length → get (l ++ m) i = get l i
  | x :: r, m, 0, h => rfl
  | x :: r, m, n + 1, h => get_app_l (l := r) (by simpa using h)
theorem get_app_r : ∀ {l m : List Sl} {i : Nat}, l.length ≤ i → get (l ++ m) i = get m (i - l.length)
  | [], m, i, h => rfl
  | x :: r, m, 0, h => by simp at h
  | x :: r, m, n + 1, h => by
    show get (r ++ m) n = get m (n + 1 - (r.length + 1))
    rw [get_app_r (l := r) (by simpa using h)]
    congr 1
    omega
theorem get_rep : ∀ {n i : Nat}, get (List.replicate n .no) i = .no
  | 0, _ => rfl
  | n + 1, 0 => rfl
  | n + 1, i + 1 => get_rep (n := n) (i := i)
theorem get_map : ∀ {ds : List D} {i : Nat} {d : D}, ds[i]? = some d → get (ds.map Sl.d) i = .d d
  | [], _, _, h => by simp at h
  | x :: r, 0, d, h => by
    have h : x = d := Option.some.inj h
    rw [h]
    rfl
  | x :: r, n + 1, d, h => get_map (ds := r) (i := n) (by simpa using h)
theorem start_st {K : PySem.W.Frag} {G U H : Hp} {N : List Str} {vs : List V} {ds : List D} {μ : Mu} (b : Base K G U H μ) (h : DVs K G ds vs) (hl : ds.length ≤ N.length) : St K G U H (L2.start N vs) ⟨ρ0 N.length ds, μ⟩ := by
  have hlen := h.len
  have no : ∀ i, (get (ρ0 N.length ds) i).own = false := fun i => by
    unfold ρ0
    by_cases hi : i < ds.length
    · rw [get_app_l (by simpa using hi), get_map (List.getElem?_eq_getElem hi)]
      rfl
    · rw [get_app_r (by simpa using hi), get_rep]
      rfl
  refine ⟨b, ?_, fun i => ?_, fun i j a _ q1 _ => ?_⟩
  · show (ρ0 N.length ds).length = _
    unfold ρ0 L2.start
    simp
    omega
  · show SlOk K G U H μ _ (get (ρ0 N.length ds) i)
    unfold ρ0 L2.start
    by_cases hi : i < ds.length
    · rw [get_app_l (by simpa using hi), get_map (List.getElem?_eq_getElem hi)]
      obtain ⟨v, hv, dv⟩ := h.get (List.getElem?_eq_getElem hi)
      refine ⟨v, ?_, dv⟩
      rw [List.getElem?_append_left (by rw [List.length_map, ← hlen]; exact hi), List.getElem?_map, hv]
      rfl
    · rw [get_app_r (by simpa using hi), get_rep]
      exact trivial
  · have : (get (ρ0 N.length ds) i).own = true := q1.1
    rw [no i] at this
    cases this
section
variable {P : Program} {w : World} {K : PySem.W.Frag} {mg : Str → Option Value} {base : Heap}
/-- THE RULE for a def: its body's function over trees is its promise -/
theorem fn_ok {x qual : Str} {st : Stmt} {f : Addr} {fd : FuncData} {N ps : List Str} {k : Nat} {Φ : PhiS} (F : Fun K x qual st f fd) (S : FnScope N ps (defScope st))
    (hbody : ∀ (cdv : Value) (A : Around) (outer : List Env) (s : Shared) (H : Hp), Room k (A.deeper (envOfC qual (defScope st) s.heap.objs.size f cdv)) →
      PSs (cxOf CX0 P w K mg base N qual (defScope st) f cdv A outer s H E0).nox (defBody st) (liftS K Φ)) : FnOk P w K mg base CX0 (k + 1) f fd ps (spD K ps.length (body N.length Φ)) := by
  refine F.ok S (fun vs H Q E h => spD_len h) fun cdv A outer s H vs Q E hr hsp => ⟨_, hbody cdv A outer s H hr, ?_⟩
  obtain ⟨G, U, ds, μ, R, hb, hd, hl, hF, k⟩ := hsp
  have hle : ps.length ≤ N.length := by
    have := S.pre
    have := congrArg List.length this
    rw [List.length_take] at this
    omega
  refine ⟨G, U, _, _, start_st hb hd (by omega), hF, ⟨fun s' G' H' σ' q e hs' => k _ _ _ G' H' q e hs'.base rfl, fun s' G' H' σ' q => False.elim q, fun s' G' H' σ' q => False.elim q, fun r μ' G' H' v q e b hv => k r v μ' G' H' q e b hv⟩⟩
/-- a weaker promise -/
theorem fn_imp {f : Addr} {fd : FuncData} {ps : List Str} {k n : Nat} {F F' : FD} (h : FnOk P w K mg base CX0 k f fd ps (spD K n F)) (i : ∀ ds μ R, ds.length = n → F' ds μ R → F ds μ R) : FnOk P w K mg base CX0 k f fd ps (spD K n F') :=
  h.imp fun vs H Q E ⟨G, U, ds, μ, R, hb, hd, hl, hF, k⟩ => ⟨G, U, ds, μ, R, hb, hd, hl, i ds μ R hl hF, k⟩
end
section
variable {X : Cx} {k n : Nat} {f : Addr} {fd : FuncData} {ps : List Str} {F : FD} {x : Str} {p pos : Pos} {e : Expr} {es : List Expr} {ψ : PhiA} {ds0 : List D} {dvs : List V} {us : List Value}
/-- f(..), the defaults behind -/
def eCall (F : FD) (ds0 : List D) (ψ : PhiA) : PhiE := fun s R => ψ s fun ds s1 => (F (ds ++ ds0) s1.μ fun r μ' => R r ⟨s1.ρ, μ'⟩)
def lenA (n : Nat) (ψ : PhiA) : PhiA := fun s R => ψ s fun ds s1 => ds.length = n ∧ R ds s1
theorem call_of {σ : L2.St} {H : Hp} {Q : VK} (hv : ∀ G, DVs X.K G ds0 dvs) (hn : ∀ ds μ R, F ds μ R → ds.length = n) (q : liftE X.K (eCall F ds0 ψ) σ H Q) : tCall (spD X.K n F) dvs E0 (liftA X.K ψ) σ H Q := by
  obtain ⟨G, U, s, R, hs, hr, k⟩ := q
  refine ⟨G, U, s, _, hs, hr, fun ds s1 G1 H1 vs q1 e1 hs1 dv => ⟨G1, _, ds ++ ds0, s1.μ, _, hs1.out, dv.app (hv G1), hn _ _ _ q1, q1, fun r v μ' G' H' q e b hv' => ?_⟩⟩
  exact k r _ G' H' v q (e1.trans e) (hs1.back e b) (hv'.rs (ρ := s1.ρ) hs1)
/-- the promise told with its number of arguments -/
def fdn (n : Nat) (F : FD) : FD := fun ds μ R => ds.length = n ∧ F ds μ R
theorem spD_n {K : PySem.W.Frag} : spD K n (fdn n F) = spD K n F := by
  funext vs H Q E
  refine propext ⟨fun ⟨G, U, ds, μ, R, a, b, c, d, e⟩ => ⟨G, U, ds, μ, R, a, b, c, d.2, e⟩, fun ⟨G, U, ds, μ, R, a, b, c, d, e⟩ => ⟨G, U, ds, μ, R, a, b, c, ⟨c, d⟩, e⟩⟩
theorem de_call (Fk : FnOk X.prog X.w X.K X.mg X.base CX0 k f fd ps (spD X.K n F)) (hr : Room k X.A) (hg : Gl X x) (hm : X.mg x = some (.ref f)) (hk : PySem.W.keepIn X.K (.ref f) = true) (hb : Binds X.K fd ps us) (hd : Vals dvs us) (hv : ∀ G, DVs X.K G ds0 dvs)
    (ha : PA X (e :: es) (liftA X.K ψ)) (hdb : (x == ("__debug__" : Str)) = false := by decide) (he : starEach (e :: es) X.env = (false, eval e X.env) :: starEach es X.env := by rfl) (hpl : (backTo pos (starEach es X.env)).any (·.1) = false := by rfl) :
    PE X (.Call (.Name x p) (e :: es) [] pos) (liftE X.K (eCall (fdn n F) ds0 ψ)) :=
  L2.PE.imp (t := tCall (spD X.K n (fdn n F)) dvs E0 (liftA X.K ψ)) (pe_call (by rw [spD_n]; exact Fk) hr hg hm hk hb hd pass0 ha hdb he hpl) fun σ H Q q => call_of hv (fun _ _ _ h => h.1) q
theorem de_call0 (Fk : FnOk X.prog X.w X.K X.mg X.base CX0 k f fd ps (spD X.K n F)) (hr : Room k X.A) (hg : Gl X x) (hm : X.mg x = some (.ref f)) (hk : PySem.W.keepIn X.K (.ref f) = true) (hb : Binds X.K fd ps us) (hd : Vals dvs us) (hv : ∀ G, DVs X.K G ds0 dvs)
    (hdb : (x == ("__debug__" : Str)) = false := by decide) :
    PE X (.Call (.Name x p) [] [] pos) (liftE X.K (eCall (fdn n F) ds0 aNil)) :=
  L2.PE.imp (t := tCall (spD X.K n (fdn n F)) dvs E0 L2.tNil) (pe_call0 (by rw [spD_n]; exact Fk) hr hg hm hk hb hd pass0 hdb) fun σ H Q ⟨G, U, s, R, hs, hr, k⟩ => ⟨G, _, [] ++ ds0, s.μ, _, hs.out, hv G, hr.1, hr, fun r v μ' G' H' q e b hv' => k r _ G' H' v q e (hs.back e b) (hv'.rs (ρ := s.ρ) hs)⟩
/-- a built-in, its arguments frozen; one argument looked at -/
def eCB (o : OA) (ψ : PhiA) : PhiE := fun s R => ψ s fun ds s1 => o ds fun r => R r s1
theorem cb_of {r : List V → Hp → VK → Prop} {o : OA} (ho : CallS X.K r o) {σ : L2.St} {H : Hp} {Q : VK} (q : liftE X.K (eCB o ψ) σ H Q) : tCB r (liftA X.K ψ) σ H Q := by
  obtain ⟨G, U, s, R, hs, hr, k⟩ := q
  exact ⟨G, U, s, _, hs, hr, fun ds s1 G1 H1 vs q1 e1 hs1 dv => ho G1 _ H1 s1.μ vs ds _ Q hs1.out dv q1 (con_ok hs1 e1 k)⟩
theorem de_cb {id : String} {r : List V → Hp → VK → Prop} {o : OA} (hc : CallR X (.builtin id) r) (ho : CallS X.K r o) (hg : Gl X x) (hm : X.mg x = none) (hv : bootBuiltins x = some (.builtin id)) (ha : PA X (e :: es) (liftA X.K ψ)) (hn : x ≠ "__name__" := by decide) (hdb : (x == ("__debug__" : Str)) = false := by decide)
    (he : starEach (e :: es) X.env = (false, eval e X.env) :: starEach es X.env := by rfl) (hpl : (backTo pos (starEach es X.env)).any (·.1) = false := by rfl) : PE X (.Call (.Name x p) (e :: es) [] pos) (liftE X.K (eCB o ψ)) :=
  (pe_callB hc hg hm hv ha hn hdb he hpl).imp fun σ H Q q => cb_of ho q
theorem de_cty {T : String} {r : List V → Hp → VK → Prop} {o : OA} (hc : CallR X (.type T) r) (ho : CallS X.K r o) (hg : Gl X x) (hm : X.mg x = none) (hv : bootBuiltins x = some (.type T)) (ha : PA X (e :: es) (liftA X.K ψ)) (hn : x ≠ "__name__" := by decide) (hdb : (x == ("__debug__" : Str)) = false := by decide)
    (he : starEach (e :: es) X.env = (false, eval e X.env) :: starEach es X.env := by rfl) (hpl : (backTo pos (starEach es X.env)).any (·.1) = false := by rfl) : PE X (.Call (.Name x p) (e :: es) [] pos) (liftE X.K (eCB o ψ)) :=
  (pe_callTy hc hg hm hv ha hn hdb he hpl).imp fun σ H Q q => cb_of ho q
/-- one argument, looked at -/
def eC1 (o : O1) (φ : PhiE) : PhiE := eUn o φ
theorem one_of {r : List V → Hp → VK → Prop} {o : O1} (ho : Call1S X.K r o) {φ : PhiE} {σ : L2.St} {H : Hp} {Q : VK} (q : liftE X.K (eUn o φ) σ H Q) : tCB r (tCons (liftE X.K φ) tNil) σ H Q := by
  have := un_of (X := X) (r := fun x H Q => r [x] H Q) (o := o) (φ := φ) (fun G U H μ x dx R Q b l h c => ho G U H μ x dx R Q b l h c) q
  exact this
theorem de_c1 {id : String} {φ : PhiE} {r : List V → Hp → VK → Prop} {o : O1} (hc : CallR X (.builtin id) r) (ho : Call1S X.K r o) (hg : Gl X x) (hm : X.mg x = none) (hv : bootBuiltins x = some (.builtin id)) (ha : PE X e (liftE X.K φ)) (hn : x ≠ "__name__" := by decide) (hdb : (x == ("__debug__" : Str)) = false := by decide)
    (he : starEach [e] X.env = [(false, eval e X.env)] := by rfl) : PE X (.Call (.Name x p) [e] [] pos) (liftE X.K (eUn o φ)) :=
  (pe_callB hc hg hm hv (pa_cons ha pa_nil he) hn hdb he rfl).imp fun σ H Q q => one_of ho q
theorem de_c1t {T : String} {φ : PhiE} {r : List V → Hp → VK → Prop} {o : O1} (hc : CallR X (.type T) r) (ho : Call1S X.K r o) (hg : Gl X x) (hm : X.mg x = none) (hv : bootBuiltins x = some (.type T)) (ha : PE X e (liftE X.K φ)) (hn : x ≠ "__name__" := by decide) (hdb : (x == ("__debug__" : Str)) = false := by decide)
    (he : starEach [e] X.env = [(false, eval e X.env)] := by rfl) : PE X (.Call (.Name x p) [e] [] pos) (liftE X.K (eUn o φ)) :=
  (pe_callTy hc hg hm hv (pa_cons ha pa_nil he) hn hdb he rfl).imp fun σ H Q q => one_of ho q
end
end DL
/-! DL5: operators over trees. -/
namespace DL
open PySem PySem.Spec PyProof.Rows L2

/-! ### trees as data of the library -/
mutual
def D.py : D → PyData
  | .non => .none
  | .bl b => .bool b
  | .int i => .int i
  | .str x => .str x
  | .tup ds => .tuple (D.pys ds)
  | .lst ds => .list (D.pys ds)
  | _ => .none
def D.pys : List D → List PyData
  | [] => []
  | d :: r => d.py :: D.pys r
end
mutual
/-- a datum of ints, texts, None, True, False, tuples and lists -/
def D.ok : D → Bool
  | .non => true
  | .bl _ => true
  | .int _ => true
  | .str _ => true
  | .tup ds => D.oks ds
  | .lst ds => D.oks ds
  | _ => false
def D.oks : List D → Bool
  | [] => true
  | d :: r => d.ok && D.oks r
end
mutual
def D.dep : D → Nat
  | .tup ds => D.deps ds + 1
  | .lst ds => D.deps ds + 1
  | _ => 0
def D.deps : List D → Nat
  | [] => 0
  | d :: r => max d.dep (D.deps r)
end
mutual
/-- == -/
def D.eq : D → D → Bool
  | .non, .non => true
  | .bl a, .bl b => a == b
  | .bl a, .int j => (if a then 1 else 0) == j
  | .int i, .bl b => i == (if b then 1 else 0)
  | .int i, .int j => i == j
  | .str x, .str y => x == y
  | .tup xs, .tup ys => D.eqs xs ys
  | .lst xs, .lst ys => D.eqs xs ys
  | _, _ => false
def D.eqs : List D → List D → Bool
  | [], [] => true
  | x :: xs, y :: ys => D.eq x y && D.eqs xs ys
  | _, _ => false
end
mutual
/-- < of alike data -/
def D.lt : D → D → Bool
  | .bl a, .bl b => !a && b
  | .int i, .int j => decide (i < j)
  | .str x, .str y => decide (x.cps.toList < y.cps.toList)
  | .tup xs, .tup ys => D.lts xs ys
  | .lst xs, .lst ys => D.lts xs ys
  | _, _ => false
def D.lts : List D → List D → Bool
  | [], [] => false
  | [], _ :: _ => true
  | _ :: _, [] => false
  | x :: xs, y :: ys => if D.eq x y then D.lts xs ys else D.lt x y
end
mutual
def D.alike : D → D → Bool
  | .non, .non => true
  | .bl _, .bl _ => true
  | .int _, .int _ => true
  | .str _, .str _ => true
  | .tup xs, .tup ys => D.alikes xs ys
  | .lst xs, .lst ys => D.alikes xs ys
  | _, _ => false
def D.alikes : List D → List D → Bool
  | x :: xs, y :: ys => D.alike x y && D.alikes xs ys
  | [], _ => true
  | _ :: _, [] => true
end
open PySem.W in
mutual
theorem py_alike : ∀ x y : D, D.alike x y = true → alike x.py y.py = true
  | .non, .non, _ => rfl
  | .bl _, .bl _, _ => rfl
  | .int _, .int _, _ => rfl
  | .str _, .str _, _ => rfl
  | .tup xs, .tup ys, h => by
    show alike (.tuple _) (.tuple _) = true
    rw [alike]
    exact py_alikes xs ys h
  | .lst xs, .lst ys, h => by
    show alike (.list _) (.list _) = true
    rw [alike]
    exact py_alikes xs ys h
  | .non, .bl _, h | .non, .int _, h | .non, .str _, h | .non, .tup _, h | .non, .lst _, h | .non, .ty _, h | .non, .ref _, h | .non, .dic _ _, h | .non, .dit _ _, h | .non, .dlr, h => by cases h
  | .bl _, .non, h | .bl _, .int _, h | .bl _, .str _, h | .bl _, .tup _, h | .bl _, .lst _, h | .bl _, .ty _, h | .bl _, .ref _, h | .bl _, .dic _ _, h | .bl _, .dit _ _, h | .bl _, .dlr, h => by cases h
  | .int _, .non, h | .int _, .bl _, h | .int _, .str _, h | .int _, .tup _, h | .int _, .lst _, h | .int _, .ty _, h | .int _, .ref _, h | .int _, .dic _ _, h | .int _, .dit _ _, h | .int _, .dlr, h => by cases h
  | .str _, .non, h | .str _, .bl _, h | .str _, .int _, h | .str _, .tup _, h | .str _, .lst _, h | .str _, .ty _, h | .str _, .ref _, h | .str _, .dic _ _, h | .str _, .dit _ _, h | .str _, .dlr, h => by cases h
  | .tup _, .non, h | .tup _, .bl _, h | .tup _, .int _, h | .tup _, .str _, h | .tup _, .lst _, h | .tup _, .ty _, h | .tup _, .ref _, h | .tup _, .dic _ _, h | .tup _, .dit _ _, h | .tup _, .dlr, h => by cases h
  | .lst _, .non, h | .lst _, .bl _, h | .lst _, .int _, h | .lst _, .str _, h | .lst _, .tup _, h | .lst _, .ty _, h | .lst _, .ref _, h | .lst _, .dic _ _, h | .lst _, .dit _ _, h | .lst _, .dlr, h => by cases h
  | .ty _, _, h => by unfold D.alike at h; cases h
  | .ref _, _, h => by unfold D.alike at h; cases h
  | .dic _ _, _, h => by unfold D.alike at h; cases h
  | .dit _ _, _, h => by unfold D.alike at h; cases h
  | .dlr, _, h => by unfold D.alike at h; cases h
theorem py_alikes : ∀ xs ys : List D, D.alikes xs ys = true → alikeAll (D.pys xs) (D.pys ys) = true
  | [], ys, _ => by
    show alikeAll [] _ = true
    rw [alikeAll]
  | x :: xs, [], _ => by
    show alikeAll (_ :: _) [] = true
    rw [alikeAll]
  | x :: xs, y :: ys, h => by
    unfold D.alikes at h
    rw [Bool.and_eq_true] at h
    show alikeAll (x.py :: D.pys xs) (y.py :: D.pys ys) = true
    rw [alikeAll, Bool.and_eq_true]
    exact ⟨py_alike x y h.1, py_alikes xs ys h.2⟩
end
mutual
theorem py_dep : ∀ d : D, d.py.depth ≤ d.dep
  | .non => Nat.zero_le _
  | .bl _ => Nat.zero_le _
  | .int _ => Nat.zero_le _
  | .str _ => Nat.zero_le _
  | .ty _ => Nat.zero_le _
  | .ref _ => Nat.zero_le _
  | .dic _ _ => Nat.zero_le _
  | .dit _ _ => Nat.zero_le _
  | .dlr => Nat.zero_le _
  | .tup ds => by
    show (PyData.tuple (D.pys ds)).depth ≤ D.deps ds + 1
    rw [PyData.depth]
    have := py_deps ds
    omega
  | .lst ds => by
    show (PyData.list (D.pys ds)).depth ≤ D.deps ds + 1
    rw [PyData.depth]
    have := py_deps ds
    omega
theorem py_deps : ∀ ds : List D, PyData.depthAll (D.pys ds) ≤ D.deps ds
  | [] => Nat.zero_le _
  | d :: r => by
    show PyData.depthAll (d.py :: D.pys r) ≤ max d.dep (D.deps r)
    rw [PyData.depthAll]
    have := py_dep d
    have := py_deps r
    omega
end
mutual
theorem py_plain : ∀ d : D, d.py.plain = true
  | .non => rfl
  | .bl _ => rfl
  | .int _ => rfl
  | .str _ => rfl
  | .ty _ => rfl
  | .ref _ => rfl
  | .dic _ _ => rfl
  | .dit _ _ => rfl
  | .dlr => rfl
  | .tup ds => by
    show (PyData.tuple (D.pys ds)).plain = true
    rw [PyData.plain]
    exact py_plains ds
  | .lst ds => by
    show (PyData.list (D.pys ds)).plain = true
    rw [PyData.plain]
    exact py_plains ds
theorem py_plains : ∀ ds : List D, PyData.plainAll (D.pys ds) = true
  | [] => rfl
  | d :: r => by
    show PyData.plainAll (d.py :: D.pys r) = true
    rw [PyData.plainAll, py_plain d, py_plains r]
    rfl
end
mutual
theorem py_eq : ∀ x y : D, x.ok = true → y.ok = true → PyData.eqv x.py y.py = D.eq x y
  | .non, y, _, hy => by cases y <;> first | rfl | cases hy
  | .bl _, y, _, hy => by cases y <;> first | rfl | cases hy
  | .int _, y, _, hy => by cases y <;> first | rfl | cases hy
  | .str _, y, _, hy => by cases y <;> first | rfl | cases hy
  | .tup xs, .tup ys, hx, hy => by
    show PyData.eqv (.tuple _) (.tuple _) = _
    rw [PyData.eqv]
    exact py_eqs xs ys hx hy
  | .lst xs, .lst ys, hx, hy => by
    show PyData.eqv (.list _) (.list _) = _
    rw [PyData.eqv]
    exact py_eqs xs ys hx hy
  | .tup xs, .non, _, _ | .tup xs, .bl _, _, _ | .tup xs, .int _, _, _ | .tup xs, .str _, _, _ | .tup xs, .lst _, _, _ => rfl
  | .lst xs, .non, _, _ | .lst xs, .bl _, _, _ | .lst xs, .int _, _, _ | .lst xs, .str _, _, _ | .lst xs, .tup _, _, _ => rfl
  | .tup xs, .ty _, _, h | .tup xs, .ref _, _, h | .tup xs, .dic _ _, _, h | .tup xs, .dit _ _, _, h | .tup xs, .dlr, _, h => by cases h
  | .lst xs, .ty _, _, h | .lst xs, .ref _, _, h | .lst xs, .dic _ _, _, h | .lst xs, .dit _ _, _, h | .lst xs, .dlr, _, h => by cases h
  | .ty _, _, h, _ => by cases h
  | .ref _, _, h, _ => by cases h
  | .dic _ _, _, h, _ => by cases h
  | .dit _ _, _, h, _ => by cases h
  | .dlr, _, h, _ => by cases h
theorem py_eqs : ∀ xs ys : List D, D.oks xs = true → D.oks ys = true → PyData.eqvAll (D.pys xs) (D.pys ys) = D.eqs xs ys
  | [], [], _, _ => rfl
  | [], _ :: _, _, _ => rfl
  | _ :: _, [], _, _ => rfl
  | x :: xs, y :: ys, hx, hy => by
    unfold D.oks at hx hy
    rw [Bool.and_eq_true] at hx hy
    show PyData.eqvAll (x.py :: D.pys xs) (y.py :: D.pys ys) = (D.eq x y && D.eqs xs ys)
    rw [PyData.eqvAll, py_eq x y hx.1 hy.1, py_eqs xs ys hx.2 hy.2]
end
mutual
theorem dv_dp {K : PySem.W.Frag} {G : Hp} : ∀ {d : D} {v : V}, d.ok = true → DV K G d v → Dp K G v d.py
  | .non, _, _, h => by cases h; exact .non
  | .bl _, _, _, h => by cases h; exact .bl _
  | .int _, _, _, h => by cases h; exact .int _
  | .str _, _, _, h => by cases h; exact .str _
  | .tup _, _, o, ⟨a, xs, h1, h2, h3⟩ => by subst h1; exact .tup h2 (dvs_dp o h3)
  | .lst _, _, o, ⟨a, xs, h1, h2, h3⟩ => by subst h1; exact .lst h2 (dvs_dp o h3)
  | .ty _, _, h, _ => by cases h
  | .ref _, _, h, _ => by cases h
  | .dic _ _, _, h, _ => by cases h
  | .dit _ _, _, h, _ => by cases h
  | .dlr, _, h, _ => by cases h
theorem dvs_dp {K : PySem.W.Frag} {G : Hp} : ∀ {ds : List D} {vs : List V}, D.oks ds = true → DVs K G ds vs → DpAll K G vs (D.pys ds)
  | [], _, _, h => by have h : _ = [] := h; subst h; exact .nil
  | d :: r, _, o, ⟨x, vr, h1, h2, h3⟩ => by
    subst h1
    unfold D.oks at o
    rw [Bool.and_eq_true] at o
    exact .cons (dv_dp o.1 h2) (dvs_dp o.2 h3)
end
mutual
theorem dp_same {K : PySem.W.Frag} {H H' : Hp} (e : Same H H') : ∀ {v : V} {d : PyData}, Dp K H v d → Dp K H' v d
  | _, _, .non => .non
  | _, _, .bl b => .bl b
  | _, _, .int b => .int b
  | _, _, .str b => .str b
  | _, _, .lst h a => .lst (e.seq h) (dps_same e a)
  | _, _, .tup h a => .tup (same_t e h) (dps_same e a)
theorem dps_same {K : PySem.W.Frag} {H H' : Hp} (e : Same H H') : ∀ {v : List V} {d : List PyData}, DpAll K H v d → DpAll K H' v d
  | _, _, .nil => .nil
  | _, _, .cons h a => .cons (dp_same e h) (dps_same e a)
end
theorem Lk.dp {K : PySem.W.Frag} {G U H : Hp} {μ : Mu} {d : D} {v : V} (b : Base K G U H μ) (o : d.ok = true) (h : Lk K G H d v) : Dp K H v d.py := by
  rcases h with h | ⟨p, x, hv, hh, hd⟩
  · exact dp_same b.sub (dv_dp o h)
  · subst hd hv
    cases x with
    | l ds =>
      obtain ⟨xs, h1, h2⟩ := hh
      exact .lst (SqL.of h1) (dps_same b.sub (dvs_dp o h2))
    | k ks ds => cases o
    | t ks ds => cases o
    | no => exact hh.elim
    | d d => exact hh.elim
    | b i => exact hh.elim
end DL
/-! DL6: operators over trees: arithmetic, comparisons, subscripts, in, len, isinstance. -/
namespace DL
open PySem PySem.Spec PyProof.Rows L2

theorem strlt_irrefl (l : List Nat) : ¬ l < l := List.lt_irrefl l
open PySem.W in
mutual
theorem py_lt : ∀ x y : D, x.ok = true → y.ok = true → D.alike x y = true → x ≠ .non → dataLt x.py y.py = D.lt x y
  | .non, _, _, _, _, h => absurd rfl h
  | .bl a, .bl b, _, _, _, _ => by
    show dataLt (.bool a) (.bool b) = (!a && b)
    rw [dataLt_bool]
    cases a <;> cases b <;> rfl
  | .int a, .int b, _, _, _, _ => dataLt_int a b
  | .str a, .str b, _, _, _, _ => dataLt_str a b
  | .tup xs, .tup ys, hx, hy, h, _ => by
    show dataLt (.tuple _) (.tuple _) = D.lts xs ys
    rw [dataLt_tuple]
    exact py_lts xs ys hx hy h
  | .lst xs, .lst ys, hx, hy, h, _ => by
    show dataLt (.list _) (.list _) = D.lts xs ys
    rw [dataLt_list]
    exact py_lts xs ys hx hy h
  | .bl _, .non, _, _, h, _ | .bl _, .int _, _, _, h, _ | .bl _, .str _, _, _, h, _ | .bl _, .tup _, _, _, h, _ | .bl _, .lst _, _, _, h, _ | .bl _, .ty _, _, _, h, _ | .bl _, .ref _, _, _, h, _ | .bl _, .dic _ _, _, _, h, _ | .bl _, .dit _ _, _, _, h, _ | .bl _, .dlr, _, _, h, _ => by cases h
  | .int _, .non, _, _, h, _ | .int _, .bl _, _, _, h, _ | .int _, .str _, _, _, h, _ | .int _, .tup _, _, _, h, _ | .int _, .lst _, _, _, h, _ | .int _, .ty _, _, _, h, _ | .int _, .ref _, _, _, h, _ | .int _, .dic _ _, _, _, h, _ | .int _, .dit _ _, _, _, h, _ | .int _, .dlr, _, _, h, _ => by cases h
  | .str _, .non, _, _, h, _ | .str _, .bl _, _, _, h, _ | .str _, .int _, _, _, h, _ | .str _, .tup _, _, _, h, _ | .str _, .lst _, _, _, h, _ | .str _, .ty _, _, _, h, _ | .str _, .ref _, _, _, h, _ | .str _, .dic _ _, _, _, h, _ | .str _, .dit _ _, _, _, h, _ | .str _, .dlr, _, _, h, _ => by cases h
  | .tup _, .non, _, _, h, _ | .tup _, .bl _, _, _, h, _ | .tup _, .int _, _, _, h, _ | .tup _, .str _, _, _, h, _ | .tup _, .lst _, _, _, h, _ | .tup _, .ty _, _, _, h, _ | .tup _, .ref _, _, _, h, _ | .tup _, .dic _ _, _, _, h, _ | .tup _, .dit _ _, _, _, h, _ | .tup _, .dlr, _, _, h, _ => by cases h
  | .lst _, .non, _, _, h, _ | .lst _, .bl _, _, _, h, _ | .lst _, .int _, _, _, h, _ | .lst _, .str _, _, _, h, _ | .lst _, .tup _, _, _, h, _ | .lst _, .ty _, _, _, h, _ | .lst _, .ref _, _, _, h, _ | .lst _, .dic _ _, _, _, h, _ | .lst _, .dit _ _, _, _, h, _ | .lst _, .dlr, _, _, h, _ => by cases h
  | .ty _, _, h, _, _, _ => by cases h
  | .ref _, _, h, _, _, _ => by cases h
  | .dic _ _, _, h, _, _, _ => by cases h
  | .dit _ _, _, h, _, _, _ => by cases h
  | .dlr, _, h, _, _, _ => by cases h
theorem py_lts : ∀ xs ys : List D, D.oks xs = true → D.oks ys = true → D.alikes xs ys = true → PyProof.Rows.lexLt itemOrd (keyToksAll (D.pys xs)) (keyToksAll (D.pys ys)) = D.lts xs ys
  | [], [], _, _, _ => by
    show PyProof.Rows.lexLt itemOrd (keyToksAll []) (keyToksAll []) = false
    rw [keyToksAll]
    exact lex_irrefl _
  | [], y :: ys, _, _, _ => by
    show PyProof.Rows.lexLt itemOrd (keyToksAll []) (keyToksAll (y.py :: D.pys ys)) = true
    have e := dataLt_list [] (y.py :: D.pys ys)
    rw [← e]
    unfold dataLt
    rw [keyToks, keyToks, keyToksAll, keyToksAll]
    rfl
  | x :: xs, [], _, _, _ => by
    show PyProof.Rows.lexLt itemOrd (keyToksAll (x.py :: D.pys xs)) (keyToksAll []) = false
    rw [keyToksAll, keyToksAll]
    rfl
  | x :: xs, y :: ys, hx, hy, h => by
    unfold D.oks at hx hy
    unfold D.alikes at h
    rw [Bool.and_eq_true] at hx hy h
    show PyProof.Rows.lexLt itemOrd (keyToksAll (x.py :: D.pys xs)) (keyToksAll (y.py :: D.pys ys)) = if D.eq x y then D.lts xs ys else D.lt x y
    rw [dataLt_cons (py_alike x y h.1), py_eq x y hx.1 hy.1, py_lts xs ys hx.2 hy.2 h.2]
    by_cases e : D.eq x y = true
    · rw [if_pos e, if_pos e]
    · rw [if_neg e, if_neg e]
      refine py_lt x y hx.1 hy.1 h.1 fun z => ?_
      subst z
      cases y with
      | non => exact e rfl
      | _ => cases h.1
end

/-! ### data, by values -/
def rDat (K : PySem.W.Frag) (C : PyData → PyData → Prop) (g : PyData → PyData → Bool) : R2 := fun x y H Q => ∃ d e, Dp K H x d ∧ Dp K H y e ∧ C d e ∧ Q (.bl (g d e)) H
def CEq (d e : PyData) : Prop := d.plain = true ∧ e.plain = true ∧ min d.depth e.depth ≤ 50
def COrd (d e : PyData) : Prop := PySem.W.alike d e = true ∧ d ≠ .none ∧ min d.depth e.depth ≤ 50
section
variable {X : Cx}
theorem opr_eq (hu : X.A.units + 64 < cLine) : OpR X (compareOp .Eq) (rDat X.K CEq PyData.eqv) := by
  intro pins s σ H x y v u Q I rx ry h
  obtain ⟨d, e, hd, he, ⟨c1, c2, c3⟩, q⟩ := h
  obtain ⟨as, r1⟩ := Dp.reads I d x v hd rx
  obtain ⟨bs, r2⟩ := Dp.reads I e y u he ry
  exact PySem.SeqAt.eq_plain r1 r2 c1 c2 (by omega) ⟨.bl _, H, I, rfl, q⟩
theorem opr_ne (hu : X.A.units + 64 < cLine) : OpR X (compareOp .NotEq) (rDat X.K CEq fun d e => !PyData.eqv d e) := by
  intro pins s σ H x y v u Q I rx ry h
  obtain ⟨d, e, hd, he, ⟨c1, c2, c3⟩, q⟩ := h
  obtain ⟨as, r1⟩ := Dp.reads I d x v hd rx
  obtain ⟨bs, r2⟩ := Dp.reads I e y u he ry
  exact PySem.SeqAt.ne_plain r1 r2 c1 c2 (by omega) ⟨.bl _, H, I, rfl, q⟩
theorem opr_lt (hu : X.A.units + 64 < cLine) : OpR X (compareOp .Lt) (rDat X.K COrd PySem.W.dataLt) := by
  intro pins s σ H x y v u Q I rx ry h
  obtain ⟨d, e, hd, he, ⟨c1, c2, c3⟩, q⟩ := h
  obtain ⟨as, r1⟩ := Dp.reads I d x v hd rx
  obtain ⟨bs, r2⟩ := Dp.reads I e y u he ry
  exact PySem.W.lt_data r1 r2 c1 c2 (by omega) ⟨.bl _, H, I, rfl, q⟩
theorem opr_gt (hu : X.A.units + 64 < cLine) : OpR X (compareOp .Gt) (rDat X.K COrd fun d e => PySem.W.dataLt e d) := by
  intro pins s σ H x y v u Q I rx ry h
  obtain ⟨d, e, hd, he, ⟨c1, c2, c3⟩, q⟩ := h
  obtain ⟨as, r1⟩ := Dp.reads I d x v hd rx
  obtain ⟨bs, r2⟩ := Dp.reads I e y u he ry
  exact PySem.W.gt_data r1 r2 c1 c2 (by omega) ⟨.bl _, H, I, rfl, q⟩
theorem opr_le (hu : X.A.units + 64 < cLine) : OpR X (compareOp .LtE) (rDat X.K COrd fun d e => !PySem.W.dataLt e d) := by
  intro pins s σ H x y v u Q I rx ry h
  obtain ⟨d, e, hd, he, ⟨c1, c2, c3⟩, q⟩ := h
  obtain ⟨as, r1⟩ := Dp.reads I d x v hd rx
  obtain ⟨bs, r2⟩ := Dp.reads I e y u he ry
  exact PySem.W.le_data r1 r2 c1 c2 (by omega) ⟨.bl _, H, I, rfl, q⟩
theorem opr_ge (hu : X.A.units + 64 < cLine) : OpR X (compareOp .GtE) (rDat X.K COrd fun d e => !PySem.W.dataLt d e) := by
  intro pins s σ H x y v u Q I rx ry h
  obtain ⟨d, e, hd, he, ⟨c1, c2, c3⟩, q⟩ := h
  obtain ⟨as, r1⟩ := Dp.reads I d x v hd rx
  obtain ⟨bs, r2⟩ := Dp.reads I e y u he ry
  exact PySem.W.ge_data r1 r2 c1 c2 (by omega) ⟨.bl _, H, I, rfl, q⟩
end

/-! ### the operators over trees -/
section
variable {K : PySem.W.Frag}
/-- what is asked of deep data; nothing of flat ones -/
def cEq : D → D → Prop
  | .int _, .int _ => True
  | .str _, .str _ => True
  | .non, .non => True
  | .bl _, .bl _ => True
  | .non, .int _ => True
  | .int _, .non => True
  | .non, .str _ => True
  | .str _, .non => True
  | x, y => (x.ok = true ∧ y.ok = true) ∧ min x.dep y.dep ≤ 50
def cOrd : D → D → Prop
  | .int _, .int _ => True
  | .str _, .str _ => True
  | x, y => ((x.ok = true ∧ y.ok = true) ∧ x ≠ .non ∧ D.alike x y = true) ∧ min x.dep y.dep ≤ 50
theorem cEq_ok {x y : D} (h : cEq x y) : (x.ok = true ∧ y.ok = true) ∧ min x.dep y.dep ≤ 50 := by
  unfold cEq at h
  split at h <;> first | exact h | exact ⟨⟨rfl, rfl⟩, by show min 0 0 ≤ 50; decide⟩
theorem cOrd_ok {x y : D} (h : cOrd x y) : ((x.ok = true ∧ y.ok = true) ∧ x ≠ .non ∧ D.alike x y = true) ∧ min x.dep y.dep ≤ 50 := by
  unfold cOrd at h
  split at h
  · exact ⟨⟨⟨rfl, rfl⟩, (fun z => by cases z), rfl⟩, by show min 0 0 ≤ 50; decide⟩
  · exact ⟨⟨⟨rfl, rfl⟩, (fun z => by cases z), rfl⟩, by show min 0 0 ≤ 50; decide⟩
  · exact h
def oEq : O2 := fun x y R => cEq x y ∧ R (.d (.bl (D.eq x y)))
def oNe : O2 := fun x y R => cEq x y ∧ R (.d (.bl (!D.eq x y)))
def oLt : O2 := fun x y R => cOrd x y ∧ R (.d (.bl (D.lt x y)))
def oGt : O2 := fun x y R => cOrd y x ∧ R (.d (.bl (D.lt y x)))
def oLe : O2 := fun x y R => cOrd y x ∧ R (.d (.bl (!D.lt y x)))
def oGe : O2 := fun x y R => cOrd x y ∧ R (.d (.bl (!D.lt x y)))
theorem Con.bl {G U H : Hp} {μ : Mu} {R : Sl → Prop} {Q : VK} {b : Bool} (k : Con K G U μ R Q) (hb : Base K G U H μ) (h : R (.d (.bl b))) : Q (.bl b) H := k _ _ G H h (Same.refl _) hb rfl
theorem Con.int {G U H : Hp} {μ : Mu} {R : Sl → Prop} {Q : VK} {b : Int} (k : Con K G U μ R Q) (hb : Base K G U H μ) (h : R (.d (.int b))) : Q (.int b) H := k _ _ G H h (Same.refl _) hb rfl
theorem Con.str {G U H : Hp} {μ : Mu} {R : Sl → Prop} {Q : VK} {b : Str} (k : Con K G U μ R Q) (hb : Base K G U H μ) (h : R (.d (.str b))) : Q (.str b) H := k _ _ G H h (Same.refl _) hb rfl
theorem Con.dv {G U H : Hp} {μ : Mu} {R : Sl → Prop} {Q : VK} {d : D} {v : V} (k : Con K G U μ R Q) (hb : Base K G U H μ) (hv : DV K G d v) (h : R (.d d)) : Q v H := k _ _ G H h (Same.refl _) hb hv
/-- a new tuple, a new list -/
theorem Base.new {G U H : Hp} {μ : Mu} {p : Addr} {o : HO} (h : Base K G U H μ) (hp : H p = none) : Base K G U (upd H p o) μ ∧ G p = none ∧ U p = none ∧ μ p = none := by
  have hG : G p = none := h.sub.free hp
  have hU : U p = none := h.usub.free hp
  have hM : μ p = none := by
    cases e : μ p with
    | none => rfl
    | some o =>
      obtain ⟨z, q⟩ := (h.mu p o e).2.there
      rw [hp] at q
      cases q
  refine ⟨⟨fun b u e => ?_, fun b u e => ?_, h.ug, fun b u e => ?_⟩, hG, hU, hM⟩
  · rw [upd_ne (ne_of_none e hG)]
    exact h.sub b u e
  · rw [upd_ne (ne_of_none e hU)]
    exact h.usub b u e
  · obtain ⟨h1, h2⟩ := h.mu b u e
    refine ⟨h1, h2.mono (Same.refl _) ?_⟩
    rw [upd_ne]
    intro z
    rw [z, hM] at e
    cases e
theorem Con.tup {G U H : Hp} {μ : Mu} {R : Sl → Prop} {Q : VK} {ds : List D} {vs : List V} {p : Addr} (k : Con K G U μ R Q) (hb : Base K G U H μ) (hv : DVs K G ds vs) (h : R (.d (.tup ds))) (hp : H p = none) : Q (.ref p) (upd H p (.tup vs)) := by
  obtain ⟨b1, h1, h2, h3⟩ := hb.new (o := .tup vs) hp
  exact k _ _ (upd G p (.tup vs)) _ h (same_new h1) (b1.freeze upd_same h1 h2 h3) ⟨p, vs, rfl, SqT.of upd_same, hv.mono (same_new h1)⟩
theorem Con.lst {G U H : Hp} {μ : Mu} {R : Sl → Prop} {Q : VK} {ds : List D} {vs : List V} {p : Addr} (k : Con K G U μ R Q) (hb : Base K G U H μ) (hv : DVs K G ds vs) (h : R (.l ds)) (hp : H p = none) : Q (.ref p) (upd H p (.lst vs)) := by
  obtain ⟨b1, h1, h2, h3⟩ := hb.new (o := .lst vs) hp
  exact k _ _ G _ h (Same.refl _) b1 ⟨p, rfl, h1, h2, h3, vs, upd_same, hv⟩
theorem os_eq : OpS K (rDat K CEq PyData.eqv) oEq := fun G U H μ x y dx dy R Q b lx ly h k => by
  obtain ⟨⟨o1, o2⟩, o3⟩ := cEq_ok h.1
  have := py_dep dx
  have := py_dep dy
  exact ⟨_, _, lx.dp b o1, ly.dp b o2, ⟨py_plain dx, py_plain dy, by omega⟩, by rw [py_eq dx dy o1 o2]; exact k.bl b h.2⟩
theorem os_ne : OpS K (rDat K CEq fun d e => !PyData.eqv d e) oNe := fun G U H μ x y dx dy R Q b lx ly h k => by
  obtain ⟨⟨o1, o2⟩, o3⟩ := cEq_ok h.1
  have := py_dep dx
  have := py_dep dy
  exact ⟨_, _, lx.dp b o1, ly.dp b o2, ⟨py_plain dx, py_plain dy, by omega⟩, by show Q (V.bl (!PyData.eqv dx.py dy.py)) H; rw [py_eq dx dy o1 o2]; exact k.bl b h.2⟩
theorem py_non {d : D} (o : d.ok = true) (h : d ≠ .non) : d.py ≠ .none := by
  cases d with
  | non => exact absurd rfl h
  | bl b => intro z; cases z
  | int b => intro z; cases z
  | str b => intro z; cases z
  | tup b => intro z; cases z
  | lst b => intro z; cases z
  | _ => cases o
theorem COrd_of {x y : D} (h : ((x.ok = true ∧ y.ok = true) ∧ x ≠ .non ∧ D.alike x y = true) ∧ min x.dep y.dep ≤ 50) : COrd x.py y.py := by
  obtain ⟨⟨⟨o1, o2⟩, n, a⟩, o3⟩ := h
  have := py_dep x
  have := py_dep y
  exact ⟨py_alike x y a, py_non o1 n, by omega⟩
open PySem.W in
theorem COrd.swap {x y : PyData} (h : COrd x y) : COrd y x := ⟨by rw [← alike_comm]; exact h.1, ne_none_both h.1 h.2.1, by rw [Nat.min_comm]; exact h.2.2⟩
theorem os_lt : OpS K (rDat K COrd PySem.W.dataLt) oLt := fun G U H μ x y dx dy R Q b lx ly h k => by
  have c := cOrd_ok h.1
  exact ⟨_, _, lx.dp b c.1.1.1, ly.dp b c.1.1.2, COrd_of c, by show Q (V.bl (PySem.W.dataLt dx.py dy.py)) H; rw [py_lt dx dy c.1.1.1 c.1.1.2 c.1.2.2 c.1.2.1]; exact k.bl b h.2⟩
theorem os_ge : OpS K (rDat K COrd fun d e => !PySem.W.dataLt d e) oGe := fun G U H μ x y dx dy R Q b lx ly h k => by
  have c := cOrd_ok h.1
  exact ⟨_, _, lx.dp b c.1.1.1, ly.dp b c.1.1.2, COrd_of c, by show Q (V.bl (!PySem.W.dataLt dx.py dy.py)) H; rw [py_lt dx dy c.1.1.1 c.1.1.2 c.1.2.2 c.1.2.1]; exact k.bl b h.2⟩
theorem os_gt : OpS K (rDat K COrd fun d e => PySem.W.dataLt e d) oGt := fun G U H μ x y dx dy R Q b lx ly h k => by
  have c := cOrd_ok h.1
  exact ⟨_, _, lx.dp b c.1.1.2, ly.dp b c.1.1.1, (COrd_of c).swap, by show Q (V.bl (PySem.W.dataLt dy.py dx.py)) H; rw [py_lt dy dx c.1.1.1 c.1.1.2 c.1.2.2 c.1.2.1]; exact k.bl b h.2⟩
theorem os_le : OpS K (rDat K COrd fun d e => !PySem.W.dataLt e d) oLe := fun G U H μ x y dx dy R Q b lx ly h k => by
  have c := cOrd_ok h.1
  exact ⟨_, _, lx.dp b c.1.1.2, ly.dp b c.1.1.1, (COrd_of c).swap, by show Q (V.bl (!PySem.W.dataLt dy.py dx.py)) H; rw [py_lt dy dx c.1.1.1 c.1.1.2 c.1.2.2 c.1.2.1]; exact k.bl b h.2⟩

/-! ints -/
def oI (C : Int → Int → Prop) (g : Int → Int → Int) : O2 := fun x y R => match x, y with
  | .int i, .int j => C i j ∧ R (.d (.int (g i j)))
  | _, _ => False
theorem os_I {C : Int → Int → Prop} {g : Int → Int → Int} : OpS K (rI C fun i j => .int (g i j)) (oI C g) := fun G U H μ x y dx dy R Q b lx ly h k => by
  cases dx with
  | int i =>
    cases dy with
    | int j =>
      cases lx.int
      cases ly.int
      exact ⟨i, j, rfl, rfl, h.1, k.int b h.2⟩
    | _ => exact h.elim
  | _ => exact h.elim
def oSub : O2 := fun x y R => match x, y with
  | .int i, .int j => R (.d (.int (i - j)))
  | _, _ => False
theorem os_sub : OpS K (rI0 fun i j => .int (i - j)) oSub := fun G U H μ x y dx dy R Q b lx ly h k => by
  cases dx with
  | int i =>
    cases dy with
    | int j =>
      cases lx.int
      cases ly.int
      exact ⟨i, j, rfl, rfl, k.int b h⟩
    | _ => exact h.elim
  | _ => exact h.elim
/-- a product: one factor below 2^64, or both below some hundred thousand bits -/
def cMul (i j : Int) : Prop := CMul i j ∨ CMulW i j
def oMul : O2 := oI cMul fun i j => i * j
def rMul : R2 := fun x y H Q => rI CMul (fun i j => .int (i * j)) x y H Q ∨ rI CMulW (fun i j => .int (i * j)) x y H Q
theorem opr_mul {X : Cx} : OpR X (binaryOp .Mult) rMul := op_mul.or op_mulW
theorem os_mul : OpS K rMul oMul := fun G U H μ x y dx dy R Q b lx ly h k => by
  cases dx with
  | int i =>
    cases dy with
    | int j =>
      cases lx.int
      cases ly.int
      rcases h.1 with c | c
      · exact .inl ⟨i, j, rfl, rfl, c, k.int b h.2⟩
      · exact .inr ⟨i, j, rfl, rfl, c, k.int b h.2⟩
    | _ => exact h.elim
  | _ => exact h.elim
/-- // and % by a positive number (below 9000 bits) -/
def cDiv (_ j : Int) : Prop := 0 < j ∧ (j < 1073741824 ∨ j.natAbs.log2 < 9000)
def oDiv : O2 := oI cDiv fun i j => i / j
def rDiv : R2 := fun x y H Q => rI CDiv (fun i j => .int (i / j)) x y H Q ∨ rI CDivW (fun i j => .int (i / j)) x y H Q
theorem opr_div {X : Cx} : OpR X (binaryOp .FloorDiv) rDiv := op_fdiv.or op_fdivW
theorem os_div : OpS K rDiv oDiv := fun G U H μ x y dx dy R Q b lx ly h k => by
  cases dx with
  | int i =>
    cases dy with
    | int j =>
      cases lx.int
      cases ly.int
      rcases h.1 with ⟨c, c' | c'⟩
      · exact .inl ⟨i, j, rfl, rfl, ⟨c, c'⟩, k.int b h.2⟩
      · exact .inr ⟨i, j, rfl, rfl, ⟨c, c'⟩, k.int b h.2⟩
    | _ => exact h.elim
  | _ => exact h.elim
def oMod : O2 := oI (fun _ j => 0 < j) fun i j => i % j
def oPow : O2 := oI CPow fun i j => i ^ j.toNat

/-! + -/
def rCatL (K : PySem.W.Frag) : R2 := fun x y H Q => ∃ l b xs zs, x = .ref l ∧ y = .ref b ∧ SqL K H l xs ∧ SqL K H b zs ∧ xs.length + zs.length ≤ sizeLine ∧ ∀ p, H p = none → Q (.ref p) (upd H p (.lst (xs ++ zs)))
theorem op_catL {X : Cx} : OpR X (binaryOp .Add) (rCatL X.K) := by
  intro pins s σ H x y v u Q I rx ry h
  obtain ⟨l, b, xs, zs, rfl, rfl, hH, hB, hz, q⟩ := h
  cases rx
  cases ry
  obtain ⟨its, r, p, z⟩ := I.list hH
  obtain ⟨its2, r2, p2, z2⟩ := I.list hB
  have hl := r.length
  have hl2 := r2.length
  obtain ⟨⟨cls, dd, data, sl⟩, ho, hc, n, hd⟩ := p.isList
  obtain ⟨⟨cls2, dd2, data2, sl2⟩, ho2, hc2, n2, hd2⟩ := p2.isList
  simp only at hc hd hc2 hd2
  subst hc hd hc2 hd2
  have e : its.toArray ++ its2.toArray = (its ++ its2).toArray := by simp
  refine concat_meets ⟨_, ho, rfl⟩ ⟨_, ho2, rfl⟩ noFill_list_add seq_list_add PySem.F.slot_list_add PySem.F.entry_list_add (PySem.F.args_list_add_2 _ _) (list_addW l b its.toArray its2.toArray n n2 dd dd2 sl sl2 (by simp only [List.size_toArray]; omega)) ⟨ho, ho2, ?_⟩
  rw [e]
  exact ⟨.ref _, _, I.lnew (t' := s.toks) (r.append r2) (by rw [List.length_append]; omega), rfl, q _ I.fresh⟩
def rAddA (K : PySem.W.Frag) : R2 := fun x y H Q => rI0 (fun i j => .int (i + j)) x y H Q ∨ (∃ i j, x = .str i ∧ y = .str j ∧ i.length + j.length ≤ sizeLine ∧ Q (.str (i ++ j)) H) ∨ rCatL K x y H Q ∨ rCatA K x y H Q
theorem opr_add {X : Cx} : OpR X (binaryOp .Add) (rAddA X.K) := op_add.or (op_add_str.or (op_catL.or op_catA))
def oAdd : O2 := fun x y R => match x, y with
  | .int i, .int j => R (.d (.int (i + j)))
  | .str i, .str j => i.length + j.length ≤ sizeLine ∧ R (.d (.str (i ++ j)))
  | .tup xs, .tup ys => xs.length + ys.length ≤ sizeLine ∧ R (.d (.tup (xs ++ ys)))
  | .lst xs, .lst ys => xs.length + ys.length ≤ sizeLine ∧ R (.l (xs ++ ys))
  | _, _ => False
theorem os_add : OpS K (rAddA K) oAdd := fun G U H μ x y dx dy R Q b lx ly h k => by
  cases dx with
  | int i =>
    cases dy with
    | int j =>
      cases lx.int
      cases ly.int
      exact .inl ⟨i, j, rfl, rfl, k.int b h⟩
    | _ => exact h.elim
  | str i =>
    cases dy with
    | str j =>
      cases lx.str
      cases ly.str
      exact .inr (.inl ⟨i, j, rfl, rfl, h.1, k.str b h.2⟩)
    | _ => exact h.elim
  | tup xs =>
    cases dy with
    | tup ys =>
      obtain ⟨p, us, rfl, h1, h2⟩ := lx.tup b
      obtain ⟨q, ws, rfl, h3, h4⟩ := ly.tup b
      have e1 := h2.len
      have e2 := h4.len
      have hsz := h.1
      refine .inr (.inr (.inr ⟨p, q, us, ws, rfl, rfl, h1, h3, by omega, fun z => ?_, fun _ z => ?_, fun _ _ r hr => k.tup b (h2.app h4) h.2 hr⟩))
      · subst z
        have : xs = [] := List.length_eq_zero_iff.mp e1
        subst this
        rcases ly with d | ⟨_, x, _, hh, hd⟩
        · exact k.dv b d h.2
        · cases x <;> first | exact hh.elim | cases hd
      · subst z
        have : ys = [] := List.length_eq_zero_iff.mp e2
        subst this
        have hr := h.2
        rw [List.append_nil] at hr
        rcases lx with d | ⟨_, x, _, hh, hd⟩
        · exact k.dv b d hr
        · cases x <;> first | exact hh.elim | cases hd
    | _ => exact h.elim
  | lst xs =>
    cases dy with
    | lst ys =>
      obtain ⟨p, us, rfl, h1, h2⟩ := lx.lst b
      obtain ⟨q, ws, rfl, h3, h4⟩ := ly.lst b
      have e1 := h2.len
      have e2 := h4.len
      have hsz := h.1
      exact .inr (.inr (.inl ⟨p, q, us, ws, rfl, rfl, h1, h3, by omega, fun r hr => k.lst b (h2.app h4) h.2 hr⟩))
    | _ => exact h.elim
  | _ => exact h.elim

/-! ### subscripts, slices -/
def atD {α : Type} (ds : List α) : Int → Option α
  | .ofNat n => ds[n]?
  | .negSucc n => if n < ds.length then ds[ds.length - 1 - n]? else none
theorem atD_ok {α : Type} {ds : List α} {i : Int} {d : α} (h : atD ds i = some d) : atI ds i = some d := by
  cases i with
  | ofNat n => exact atI_nat h
  | negSucc n =>
    have h : (if n < ds.length then ds[ds.length - 1 - n]? else none) = some d := h
    split at h
    · rename_i hn
      unfold atI ixN
      rw [if_neg (by omega), if_pos (by omega)]
      have : (Int.negSucc n + (ds.length : Int)).toNat = ds.length - 1 - n := by omega
      show ds[(Int.negSucc n + (ds.length : Int)).toNat]? = some d
      rw [this]
      exact h
    · cases h
theorem DVs.at {G : Hp} {ds : List D} {vs : List V} {i : Int} {d : D} (h : DVs K G ds vs) (e : atI ds i = some d) : ∃ v, atI vs i = some v ∧ DV K G d v := by
  unfold atI at e ⊢
  rw [← h.len]
  cases q : ixN ds.length i with
  | none => rw [q] at e; cases e
  | some j =>
    rw [q] at e
    exact h.get e
/-- a dict's value -/
def dlook : List Key → List D → Key → Option D
  | k :: ks, d :: ds, x => if k = x then some d else dlook ks ds x
  | _, _, _ => none
theorem dlook_ok {G : Hp} : ∀ {ks : List Key} {ds : List D} {vs : List V} {x : Key}, ks.length = vs.length → DVs K G ds vs → (∀ d, dlook ks ds x = some d → ∃ v, valV (ks.zip vs) x = some v ∧ DV K G d v) ∧ (dlook ks ds x = none → valV (ks.zip vs) x = none)
  | [], _, _, _, _, _ => ⟨(fun d h => by cases h), fun _ => rfl⟩
  | k :: ks, [], vs, x, hl, h => by
    have h : vs = [] := h
    subst h
    simp at hl
  | k :: ks, d :: ds, vs, x, hl, ⟨v, r, h1, h2, h3⟩ => by
    subst h1
    have ih := dlook_ok (ks := ks) (ds := ds) (vs := r) (x := x) (by simpa using hl) h3
    by_cases e : k = x
    · refine ⟨fun d' h => ?_, fun h => ?_⟩
      · unfold dlook at h
        rw [if_pos e] at h
        cases h
        exact ⟨v, valV_pos e, h2⟩
      · unfold dlook at h
        rw [if_pos e] at h
        cases h
    · refine ⟨fun d' h => ?_, fun h => ?_⟩
      · unfold dlook at h
        rw [if_neg e] at h
        obtain ⟨w, q1, q2⟩ := ih.1 d' h
        exact ⟨w, (valV_neg e).trans q1, q2⟩
      · unfold dlook at h
        rw [if_neg e] at h
        exact (valV_neg e).trans (ih.2 h)
def keyOf : D → Option Key
  | .int i => some (.inl i)
  | .str x => some (.inr x)
  | _ => none
theorem keyOf_ok {G H : Hp} {d : D} {v : V} {k : Key} (h : Lk K G H d v) (e : keyOf d = some k) : v = kV k := by
  cases d with
  | int i => cases e; exact h.int
  | str i => cases e; exact h.str
  | _ => cases e
def rDIx : R2 := fun x y H Q => ∃ a v, x = .ref a ∧ DGet H a y (some v) ∧ Q v H
theorem ixr_d {X : Cx} (hu : X.A.units + 1 < cLine) : IxR X rDIx := by
  intro value slice pins s σ H x y v u Q I rx ry h hs
  obtain ⟨a, w, rfl, g, q⟩ := h
  obtain rfl : v = Value.ref a := rx
  exact tail_any (dict_typeIs I g) PySem.F.slot_dict_getitem.lookup (d_getItem hu I g ry fun w' s3 I3 rw' => ⟨w, H, I3, rw', q⟩) hs
def rIxA (K : PySem.W.Frag) : R2 := fun x y H Q => rIx K x y H Q ∨ rDIx x y H Q
theorem ixr {X : Cx} (hu : X.A.units + 64 < cLine) : IxR X (rIxA X.K) := ix_seq.or (ixr_d (by omega))
def oIx : O2 := fun x y R => match x, y with
  | .tup ds, .int i => match atD ds i with
    | some d => R (.d d)
    | none => False
  | .lst ds, .int i => match atD ds i with
    | some d => R (.d d)
    | none => False
  | .str z, .int i => z.length ≤ sizeLine ∧ match atD z.cps.toList i with
    | some c => R (.d (.str ⟨#[c]⟩))
    | none => False
  | .dic ks ds, y => match keyOf y with
    | some k => match dlook ks ds k with
      | some d => R (.d d)
      | none => False
    | none => False
  | _, _ => False
theorem os_ix : OpS K (rIxA K) oIx := fun G U H μ x y dx dy R Q b lx ly h k => by
  cases dx with
  | tup ds =>
    cases dy with
    | int i =>
      have h : (match atD ds i with | some d => R (.d d) | none => False) := h
      obtain ⟨p, us, rfl, h1, h2⟩ := lx.tup b
      cases ly.int
      cases e : atD ds i with
      | none => rw [e] at h; exact h.elim
      | some d =>
        rw [e] at h
        obtain ⟨v, q1, q2⟩ := h2.at (atD_ok e)
        exact .inl (.inr (.inl ⟨p, us, i, v, rfl, rfl, h1, q1, k.dv b q2 h⟩))
    | _ => exact h.elim
  | lst ds =>
    cases dy with
    | int i =>
      have h : (match atD ds i with | some d => R (.d d) | none => False) := h
      obtain ⟨p, us, rfl, h1, h2⟩ := lx.lst b
      cases ly.int
      cases e : atD ds i with
      | none => rw [e] at h; exact h.elim
      | some d =>
        rw [e] at h
        obtain ⟨v, q1, q2⟩ := h2.at (atD_ok e)
        exact .inl (.inl ⟨p, us, i, v, rfl, rfl, h1, q1, k.dv b q2 h⟩)
    | _ => exact h.elim
  | str z =>
    cases dy with
    | int i =>
      have h : z.length ≤ sizeLine ∧ (match atD z.cps.toList i with | some c => R (.d (.str ⟨#[c]⟩)) | none => False) := h
      cases lx.str
      cases ly.int
      cases e : atD z.cps.toList i with
      | none => rw [e] at h; exact h.2.elim
      | some c =>
        rw [e] at h
        exact .inl (.inr (.inr ⟨z, i, c, rfl, rfl, h.1, atD_ok e, k.str b h.2⟩))
    | _ => exact h.elim
  | dic ks ds =>
    have h : (match keyOf dy with | some k => (match dlook ks ds k with | some d => R (.d d) | none => False) | none => False) := h
    obtain ⟨p, us, rfl, h1, h2, h3⟩ := lx.dic b
    cases e : keyOf dy with
    | none => rw [e] at h; exact h.elim
    | some kk =>
      rw [e] at h
      have h : (match dlook ks ds kk with | some d => R (.d d) | none => False) := h
      cases e2 : dlook ks ds kk with
      | none => rw [e2] at h; exact h.elim
      | some d =>
        rw [e2] at h
        obtain ⟨v, q1, q2⟩ := (dlook_ok (x := kk) h2 h3).1 d e2
        exact .inr ⟨p, v, rfl, .inl ⟨_, kk, h1, keyOf_ok ly e, q1.symm⟩, k.dv b q2 h⟩
  | _ => exact h.elim

/-! ### in -/
def rDIn (f : Bool → Bool) : R2 := fun y x H Q => ∃ a o, x = .ref a ∧ DGet H a y o ∧ Q (.bl (f o.isSome)) H
theorem opr_din {X : Cx} (hu : X.A.units + 64 < cLine) : OpR X (compareOp .In) (rDIn fun b => b) := by
  intro pins s σ H x y v u Q I rx ry h
  obtain ⟨a, o, rfl, g, q⟩ := h
  obtain rfl : u = Value.ref a := ry
  exact d_in (by omega) I g rx fun s3 I3 => ⟨.bl _, H, I3, rfl, q⟩
theorem opr_dnotin {X : Cx} (hu : X.A.units + 64 < cLine) : OpR X (compareOp .NotIn) (rDIn fun b => !b) := by
  intro pins s σ H x y v u Q I rx ry h
  obtain ⟨a, o, rfl, g, q⟩ := h
  obtain rfl : u = Value.ref a := ry
  exact d_notIn (by omega) I g rx fun s3 I3 => ⟨.bl _, H, I3, rfl, q⟩
def rInS (f : Bool → Bool) : R2 := fun x y H Q => ∃ (c : Nat) (z : Str), x = .str ⟨#[c]⟩ ∧ y = .str z ∧ Q (.bl (f (decide (c ∈ z.cps.toList)))) H
def rInP (K : PySem.W.Frag) (f : Bool → Bool) : R2 := fun x y H Q => ∃ d ds e, Dp K H x d ∧ Dp K H y e ∧ (e = .list ds ∨ e = .tuple ds) ∧ (d.plain = true ∧ PyData.plainAll ds = true ∧ min (PyData.depthAll ds) d.depth ≤ 50) ∧ Q (.bl (f (ds.any fun z => PyData.eqv z d))) H
theorem opr_inP {X : Cx} (hu : X.A.units + 64 < cLine) : OpR X (compareOp .In) (rInP X.K fun b => b) := by
  intro pins s σ H x y v u Q I rx ry h
  obtain ⟨d, ds, e, hd, he, hz, ⟨c1, c2, c3⟩, q⟩ := h
  obtain ⟨as, r1⟩ := Dp.reads I d x v hd rx
  obtain ⟨bs, r2⟩ := Dp.reads I e y u he ry
  rcases hz with rfl | rfl
  · exact PySem.SeqAt.in_list_data r2 r1 c2 c1 (by omega) ⟨.bl _, H, I, rfl, q⟩
  · exact PySem.SeqAt.in_tuple_data r2 r1 c2 c1 (by omega) ⟨.bl _, H, I, rfl, q⟩
theorem opr_notInP {X : Cx} (hu : X.A.units + 64 < cLine) : OpR X (compareOp .NotIn) (rInP X.K fun b => !b) := by
  intro pins s σ H x y v u Q I rx ry h
  obtain ⟨d, ds, e, hd, he, hz, ⟨c1, c2, c3⟩, q⟩ := h
  obtain ⟨as, r1⟩ := Dp.reads I d x v hd rx
  obtain ⟨bs, r2⟩ := Dp.reads I e y u he ry
  rcases hz with rfl | rfl
  · exact PySem.SeqAt.notIn_list_data r2 r1 c2 c1 (by omega) ⟨.bl _, H, I, rfl, q⟩
  · exact PySem.SeqAt.notIn_tuple_data r2 r1 c2 c1 (by omega) ⟨.bl _, H, I, rfl, q⟩
def rInA (K : PySem.W.Frag) (f : Bool → Bool) : R2 := fun x y H Q => rInP K f x y H Q ∨ rInS f x y H Q ∨ rDIn f x y H Q
theorem opr_in {X : Cx} (hu : X.A.units + 64 < cLine) : OpR X (compareOp .In) (rInA X.K fun b => b) := (opr_inP hu).or (op_in_sign.or (opr_din hu))
theorem opr_notin {X : Cx} (hu : X.A.units + 64 < cLine) : OpR X (compareOp .NotIn) (rInA X.K fun b => !b) := (opr_notInP hu).or (op_notIn_sign.or (opr_dnotin hu))
/-- what is asked of the deep -/
def cIn (x : D) (ds : List D) : Prop := (x.ok = true ∧ D.oks ds = true) ∧ min (D.deps ds) x.dep ≤ 50
def oIn (f : Bool → Bool) : O2 := fun x y R => match x, y with
  | .str x, .str z => match x.cps.toList with
    | [c] => R (.d (.bl (f (decide (c ∈ z.cps.toList)))))
    | _ => False
  | x, .tup ds => cIn x ds ∧ R (.d (.bl (f (ds.any fun z => D.eq z x))))
  | x, .lst ds => cIn x ds ∧ R (.d (.bl (f (ds.any fun z => D.eq z x))))
  | x, .dic ks ds => match keyOf x with
    | some k => R (.d (.bl (f (dlook ks ds k).isSome)))
    | none => False
  | _, _ => False
theorem pys_any (x : D) (hx : x.ok = true) : ∀ ds : List D, D.oks ds = true → ((D.pys ds).any fun z => PyData.eqv z x.py) = ds.any fun z => D.eq z x
  | [], _ => rfl
  | d :: r, h => by
    unfold D.oks at h
    rw [Bool.and_eq_true] at h
    show ((d.py :: D.pys r).any fun z => PyData.eqv z x.py) = _
    rw [List.any_cons, List.any_cons, py_eq d x h.1 hx, pys_any x hx r h.2]
theorem os_in {f : Bool → Bool} : OpS K (rInA K f) (oIn f) := fun G U H μ x y dx dy R Q b lx ly h k => by
  have seq : ∀ {ds : List D} {e : D}, cIn dx ds → R (.d (.bl (f (ds.any fun z => D.eq z dx)))) → Lk K G H e y → e.ok = true → (e.py = .list (D.pys ds) ∨ e.py = .tuple (D.pys ds)) → rInA K f x y H Q := fun {ds e} c hr le oe he => by
    have := py_dep dx
    have := py_deps ds
    have := c.2
    exact .inl ⟨dx.py, D.pys ds, e.py, lx.dp b c.1.1, le.dp b oe, he, ⟨py_plain dx, py_plains ds, by omega⟩, by rw [pys_any dx c.1.1 ds c.1.2]; exact k.bl b hr⟩
  cases dy with
  | tup ds =>
    have h : cIn dx ds ∧ R (.d (.bl (f (ds.any fun z => D.eq z dx)))) := by cases dx <;> exact h
    exact seq (e := .tup ds) h.1 h.2 ly h.1.1.2 (.inr rfl)
  | lst ds =>
    have h : cIn dx ds ∧ R (.d (.bl (f (ds.any fun z => D.eq z dx)))) := by cases dx <;> exact h
    exact seq (e := .lst ds) h.1 h.2 ly h.1.1.2 (.inl rfl)
  | str z =>
    cases dx with
    | str w =>
      have h : (match w.cps.toList with | [c] => R (.d (.bl (f (decide (c ∈ z.cps.toList))))) | _ => False) := h
      cases lx.str
      cases ly.str
      split at h
      · rename_i c e
        have hw : w = ⟨#[c]⟩ := by
          cases w with
          | mk cps =>
            congr 1
            exact Array.toList_inj.mp (e.trans rfl)
        subst hw
        exact .inr (.inl ⟨c, z, rfl, rfl, k.bl b h⟩)
      · exact h.elim
    | _ => exact h.elim
  | dic ks ds =>
    have h : (match keyOf dx with | some k => R (.d (.bl (f (dlook ks ds k).isSome))) | none => False) := by cases dx <;> exact h
    obtain ⟨p, us, rfl, h1, h2, h3⟩ := ly.dic b
    cases e : keyOf dx with
    | none => rw [e] at h; exact h.elim
    | some kk =>
      rw [e] at h
      refine .inr (.inr ⟨p, valV (ks.zip us) kk, rfl, .inl ⟨_, kk, h1, keyOf_ok lx e, rfl⟩, ?_⟩)
      have : (valV (ks.zip us) kk).isSome = (dlook ks ds kk).isSome := by
        have q := dlook_ok (x := kk) h2 h3
        cases e2 : dlook ks ds kk with
        | none => rw [q.2 e2] <;> rfl
        | some d =>
          obtain ⟨v, q1, _⟩ := q.1 d e2
          rw [q1] <;> rfl
      rw [this]
      exact k.bl b h
  | _ => cases dx <;> exact h.elim

/-! ### is None -/
def oIs (f : Bool → Bool) : O2 := fun x y R => match y with
  | .non => match x with
    | .non => R (.d (.bl (f true)))
    | _ => R (.d (.bl (f false)))
  | _ => False
def D.isNon : D → Bool
  | .non => true
  | _ => false
theorem isnon {G H : Hp} {d : D} {v : V} (h : Lk K G H d v) : decide (v = .non) = d.isNon := by
  rcases h with h | ⟨p, x, hv, hh, hd⟩
  · cases d with
    | non => have h : v = .non := h; subst h; rfl
    | bl b => have h : v = .bl b := h; subst h; rfl
    | int b => have h : v = .int b := h; subst h; rfl
    | str b => have h : v = .str b := h; subst h; exact decide_eq_false (fun z => by cases z)
    | ty b => have h : v = .ty b := h; subst h; exact decide_eq_false (fun z => by cases z)
    | ref b => have h : v = .ref b := h; subst h; exact decide_eq_false (fun z => by cases z)
    | tup ds => obtain ⟨a, xs, e, _⟩ := h; subst e; exact decide_eq_false (fun z => by cases z)
    | lst ds => obtain ⟨a, xs, e, _⟩ := h; subst e; exact decide_eq_false (fun z => by cases z)
    | dic ks ds => obtain ⟨a, xs, e, _⟩ := h; subst e; exact decide_eq_false (fun z => by cases z)
    | dit ks ds => obtain ⟨a, xs, e, _⟩ := h; subst e; exact decide_eq_false (fun z => by cases z)
    | dlr => obtain ⟨a, xs, ns, e, _⟩ := h; subst e; exact decide_eq_false (fun z => by cases z)
  · subst hv hd
    cases x with
    | no => exact hh.elim
    | d d => exact hh.elim
    | b i => exact hh.elim
    | l ds => exact decide_eq_false (fun z => by cases z)
    | k ks ds => exact decide_eq_false (fun z => by cases z)
    | t ks ds => exact decide_eq_false (fun z => by cases z)
theorem oIs_val {f : Bool → Bool} {x : D} {R : Sl → Prop} (h : oIs f x .non R) : R (.d (.bl (f x.isNon))) := by
  cases x <;> exact h
theorem os_is : OpS K (fun x y H Q => y = .non ∧ Q (.bl (decide (x = .non))) H) (oIs fun b => b) := fun G U H μ x y dx dy R Q b lx ly h k => by
  cases dy with
  | non => exact ⟨ly.non, by rw [isnon lx]; exact k.bl b (oIs_val h)⟩
  | _ => exact h.elim
theorem os_isnot : OpS K (fun x y H Q => y = .non ∧ Q (.bl (!decide (x = .non))) H) (oIs fun b => !b) := fun G U H μ x y dx dy R Q b lx ly h k => by
  cases dy with
  | non => exact ⟨ly.non, by rw [isnon lx]; exact k.bl b (oIs_val h)⟩
  | _ => exact h.elim
end
end DL
/-! DL7: len, isinstance, int, tuple, list, slices; own lists and dicts written; comprehensions. -/
namespace DL
open PySem PySem.Spec PyProof.Rows L2

section
variable {K : PySem.W.Frag}
/-! ### len -/
def rLenA (K : PySem.W.Frag) : List V → Hp → VK → Prop := fun xs H Q => (∃ x n, xs = [x] ∧ LenV K x H n ∧ Q (.int n) H) ∨ ∃ a, ∃ kvs : List (Key × V), xs = [.ref a] ∧ Rd H a (.dK kvs) ∧ Q (.int kvs.length) H
theorem cr_len {X : Cx} : CallR X (.builtin "len") (rLenA X.K) := by
  intro pins s σ H xs us Q I r h
  rcases h with h | ⟨a, kvs, rfl, ha, q⟩
  · exact call_len pins s σ H xs us Q I r h
  · obtain ⟨u, rfl, ru⟩ := vals1 r
    cases ru
    exact d_len I ha fun t s' I' => ⟨.int kvs.length, H, I', ⟨t, rfl⟩, q⟩
def oLen : O1 := fun x R => match x with
  | .str z => z.length ≤ sizeLine ∧ R (.d (.int z.length))
  | .tup ds => R (.d (.int ds.length))
  | .lst ds => R (.d (.int ds.length))
  | .dic ks _ => R (.d (.int ks.length))
  | _ => False
theorem cs_len : Call1S K (rLenA K) oLen := fun G U H μ x d R Q b l h k => by
  cases d with
  | str z =>
    cases l.str
    exact .inl ⟨_, z.length, rfl, ⟨h.1, rfl⟩, k.int b h.2⟩
  | tup ds =>
    obtain ⟨a, xs, rfl, h1, h2⟩ := l.tup b
    exact .inl ⟨_, xs.length, rfl, .inr ⟨xs, h1, rfl⟩, by rw [← h2.len]; exact k.int b h⟩
  | lst ds =>
    obtain ⟨a, xs, rfl, h1, h2⟩ := l.lst b
    exact .inl ⟨_, xs.length, rfl, .inl ⟨xs, h1, rfl⟩, by rw [← h2.len]; exact k.int b h⟩
  | dic ks ds =>
    obtain ⟨a, xs, rfl, h1, h2, h3⟩ := l.dic b
    refine .inr ⟨a, ks.zip xs, rfl, h1, ?_⟩
    have : (ks.zip xs).length = ks.length := by rw [List.length_zip]; omega
    rw [this]
    exact k.int b h
  | _ => exact h.elim

/-! ### isinstance of a built-in type -/
def D.tyName : D → Option String
  | .non => some "NoneType"
  | .bl _ => some "bool"
  | .int _ => some "int"
  | .str _ => some "str"
  | .tup _ => some "tuple"
  | .lst _ => some "list"
  | .dic _ _ => some "dict"
  | _ => none
theorem ty_rd {H : Hp} {a : Addr} {xs : List V} (h : SqT K H a xs) : TyX K H (.ref a) (.type "tuple") := by
  rcases h with (h | ⟨o, h⟩) | ⟨o, its, n, h1, h2, _⟩
  · exact .base (.tup h)
  · exact .fTuple h
  · exact .kTuple h1 h2
theorem ty_rl {H : Hp} {a : Addr} {xs : List V} (h : SqL K H a xs) : TyX K H (.ref a) (.type "list") := by
  rcases h with (h | ⟨o, h⟩) | ⟨o, its, n, h1, h2, _⟩
  · exact .base (.lst h)
  · exact .base (.frz h)
  · exact .kList h1 h2
theorem ty_ok {G U H : Hp} {μ : Mu} {d : D} {v : V} {T : String} (b : Base K G U H μ) (l : Lk K G H d v) (h : d.tyName = some T) : TyX K H v (.type T) := by
  cases d with
  | non => cases h; cases l.non; exact .base .non
  | bl c => cases h; cases l.bl; exact .base (.bl _)
  | int i => cases h; cases l.int; exact .base (.int _)
  | str x => cases h; cases l.str; exact .base (.str _)
  | tup ds => cases h; obtain ⟨a, xs, rfl, h1, h2⟩ := l.tup b; exact ty_rd h1
  | lst ds => cases h; obtain ⟨a, xs, rfl, h1, h2⟩ := l.lst b; exact ty_rl h1
  | dic ks ds =>
    cases h
    obtain ⟨a, xs, rfl, h1, h2⟩ := l.dic b
    rcases h1 with h1 | ⟨o, h1⟩
    · exact .base (.dK h1)
    · exact .fDict h1
  | _ => cases h
/-- isinstance(x, T): f tells it by the type's name -/
def oIsT (f : String → Option Bool) : O1 := fun x R => match x.tyName with
  | some t => match f t with
    | some b => R (.d (.bl b))
    | none => False
  | none => False
def isInt : String → Option Bool
  | "int" => some true
  | "bool" => some true
  | "NoneType" => some false
  | "str" => some false
  | "tuple" => some false
  | "list" => some false
  | "dict" => some false
  | _ => none
def isOnly (T : String) : String → Option Bool := fun t => if t = T then some true else if t = "int" ∨ t = "NoneType" ∨ t = "str" ∨ t = "tuple" ∨ t = "list" ∨ t = "dict" ∨ t = "bool" then some false else none
theorem cs_isi {n : String} {f : String → Option Bool} (hf : ∀ d : D, ∀ t b, d.tyName = some t → f t = some b → kitB t n = some b) {X : Cx} {e c : Expr} {φ : PhiE} {x : Str} {p pos : Pos} (hx : x = "isinstance") (hg : Gl X x) (hm : X.mg x = none) (he : PE X e (liftE X.K φ)) (hc : PE X c (tC (.ty n)))
    (hs : starEach [e, c] X.env = [(false, eval e X.env), (false, eval c X.env)] := by rfl) (hs2 : starEach [c] X.env = [(false, eval c X.env)] := by rfl) : PE X (.Call (.Name x p) [e, c] [] pos) (liftE X.K (eUn (oIsT f) φ)) := by
  subst hx
  refine (pe_callB call_isi hg hm boot_isinstance (pa_cons he (pa_cons hc pa_nil hs2) (by rw [hs, hs2])) (by decide) (by decide) (by rw [hs, hs2]) (by rw [hs2]; rfl)).imp fun σ H Q q => ?_
  have := un_of (X := X) (r := fun x H Q => rIsi X.K [x, .ty n] H Q) (o := oIsT f) (φ := φ) (fun G U H μ x d R Q b l h k => by
    unfold oIsT at h
    cases ht : d.tyName with
    | none => rw [ht] at h; exact h.elim
    | some t =>
      rw [ht] at h
      have h : (match f t with | some b => R (.d (.bl b)) | none => False) := h
      cases hft : f t with
      | none => rw [hft] at h; exact h.elim
      | some bb =>
        rw [hft] at h
        exact ⟨x, .ty n, .type t, .type n, bb, rfl, .ty n, ty_ok b l ht, kit_ty (hf d t bb ht hft), k.bl b h⟩) q
  exact this
theorem hf_int : ∀ d : D, ∀ t b, d.tyName = some t → isInt t = some b → kitB t "int" = some b := fun d t b h => by
  have : t = "NoneType" ∨ t = "bool" ∨ t = "int" ∨ t = "str" ∨ t = "tuple" ∨ t = "list" ∨ t = "dict" := by
    cases d <;> first | (cases h; simp) | cases h
  rcases this with rfl | rfl | rfl | rfl | rfl | rfl | rfl
  · intro q; rw [← q]; decide +kernel
  · intro q; rw [← q]; decide +kernel
  · intro q; rw [← q]; decide +kernel
  · intro q; rw [← q]; decide +kernel
  · intro q; rw [← q]; decide +kernel
  · intro q; rw [← q]; decide +kernel
  · intro q; rw [← q]; decide +kernel
theorem hf_bool : ∀ d : D, ∀ t b, d.tyName = some t → isOnly "bool" t = some b → kitB t "bool" = some b := fun d t b h => by
  have : t = "NoneType" ∨ t = "bool" ∨ t = "int" ∨ t = "str" ∨ t = "tuple" ∨ t = "list" ∨ t = "dict" := by
    cases d <;> first | (cases h; simp) | cases h
  rcases this with rfl | rfl | rfl | rfl | rfl | rfl | rfl <;> (intro q; rw [← q]; decide +kernel)
theorem hf_str : ∀ d : D, ∀ t b, d.tyName = some t → isOnly "str" t = some b → kitB t "str" = some b := fun d t b h => by
  have : t = "NoneType" ∨ t = "bool" ∨ t = "int" ∨ t = "str" ∨ t = "tuple" ∨ t = "list" ∨ t = "dict" := by
    cases d <;> first | (cases h; simp) | cases h
  rcases this with rfl | rfl | rfl | rfl | rfl | rfl | rfl <;> (intro q; rw [← q]; decide +kernel)
theorem hf_tuple : ∀ d : D, ∀ t b, d.tyName = some t → isOnly "tuple" t = some b → kitB t "tuple" = some b := fun d t b h => by
  have : t = "NoneType" ∨ t = "bool" ∨ t = "int" ∨ t = "str" ∨ t = "tuple" ∨ t = "list" ∨ t = "dict" := by
    cases d <;> first | (cases h; simp) | cases h
  rcases this with rfl | rfl | rfl | rfl | rfl | rfl | rfl <;> (intro q; rw [← q]; decide +kernel)
theorem hf_list : ∀ d : D, ∀ t b, d.tyName = some t → isOnly "list" t = some b → kitB t "list" = some b := fun d t b h => by
  have : t = "NoneType" ∨ t = "bool" ∨ t = "int" ∨ t = "str" ∨ t = "tuple" ∨ t = "list" ∨ t = "dict" := by
    cases d <;> first | (cases h; simp) | cases h
  rcases this with rfl | rfl | rfl | rfl | rfl | rfl | rfl <;> (intro q; rw [← q]; decide +kernel)

/-! ### int(x), tuple(x), list(x) -/
def oInt : O1 := fun x R => match x with
  | .int i => R (.d (.int i))
  | .bl b => R (.d (.int (if b then 1 else 0)))
  | _ => False
theorem cs_int : Call1S K (fun xs H Q => (∃ i, xs = [.int i] ∧ Q (.int i) H) ∨ ∃ k, xs = [.bl k] ∧ Q (.int (if k then 1 else 0)) H) oInt := fun G U H μ x d R Q b l h k => by
  cases d with
  | int i => cases l.int; exact .inl ⟨i, rfl, k.int b h⟩
  | bl c => cases l.bl; exact .inr ⟨c, rfl, k.int b h⟩
  | _ => exact h.elim
def oTuple : O1 := fun x R => match x with
  | .lst ds => R (.d (.tup ds))
  | .tup ds => R (.d (.tup ds))
  | _ => False
theorem cs_tuple : Call1S K (fun xs H Q => ∃ p ys, xs = [.ref p] ∧ ((SqL K H p ys ∧ ∀ l, H l = none → Q (.ref l) (upd H l (.tup ys))) ∨ (SqT K H p ys ∧ Q (.ref p) H))) oTuple := fun G U H μ x d R Q b l h k => by
  cases d with
  | lst ds =>
    obtain ⟨a, xs, rfl, h1, h2⟩ := l.lst b
    exact ⟨a, xs, rfl, .inl ⟨h1, fun p hp => k.tup b h2 h hp⟩⟩
  | tup ds =>
    obtain ⟨a, xs, e, h1, h2⟩ := l.tup b
    subst e
    refine ⟨a, xs, rfl, .inr ⟨h1, ?_⟩⟩
    rcases l with d | ⟨_, y, _, hh, hd⟩
    · exact k.dv b d h
    · cases y <;> first | exact hh.elim | cases hd
  | _ => exact h.elim
def oList : O1 := fun x R => match x with
  | .lst ds => R (.l ds)
  | .tup ds => R (.l ds)
  | _ => False
theorem cs_list : Call1S K (fun xs H Q => ∃ p ys, xs = [.ref p] ∧ (SqL K H p ys ∨ SqT K H p ys) ∧ ∀ l, H l = none → Q (.ref l) (upd H l (.lst ys))) oList := fun G U H μ x d R Q b l h k => by
  cases d with
  | lst ds =>
    obtain ⟨a, xs, rfl, h1, h2⟩ := l.lst b
    exact ⟨a, xs, rfl, .inl h1, fun p hp => k.lst b h2 h hp⟩
  | tup ds =>
    obtain ⟨a, xs, rfl, h1, h2⟩ := l.tup b
    exact ⟨a, xs, rfl, .inr h1, fun p hp => k.lst b h2 h hp⟩
  | _ => exact h.elim

/-! ### slices -/
abbrev PhiO := S → (Option Int → S → Prop) → Prop
def liftO (K : PySem.W.Frag) (φ : PhiO) : TO := fun σ H Q => ∃ G U s R, DL.St K G U H σ s ∧ φ s R ∧ ∀ o s' G' H', R o s' → Same G G' → DL.St K G' U H' σ s' → Q o H'
def cutD {α : Type} (xs : List α) (lo hi : Option Int) : List α := (xs.drop (HT.sIx xs.length 0 lo)).take (HT.sIx xs.length xs.length hi - HT.sIx xs.length 0 lo)
theorem DVs.cut {G : Hp} {ds : List D} {vs : List V} (h : DVs K G ds vs) (lo hi : Option Int) : DVs K G (cutD ds lo hi) (cutV vs lo hi) := by
  unfold cutD cutV
  rw [h.len]
  exact (h.drop _).take _
abbrev O3 := D → Option Int → Option Int → (Sl → Prop) → Prop
def oSl : O3 := fun x lo hi R => match x with
  | .lst ds => R (.l (cutD ds lo hi))
  | .tup ds => R (.d (.tup (cutD ds lo hi)))
  | .str z => z.length ≤ sizeLine ∧ R (.d (.str (cutS z lo hi)))
  | _ => False
def rSl (K : PySem.W.Frag) : V → Option Int → Option Int → Hp → VK → Prop := fun x lo hi H Q => rSlL K x lo hi H Q ∨ rSlA K x lo hi H Q ∨ rSlS x lo hi H Q
theorem slr {X : Cx} : SlR X (rSl X.K) := sl_list.or (sl_tupA.or sl_str)
theorem os_sl {G U H : Hp} {μ : Mu} {x : V} {d : D} {lo hi : Option Int} {R : Sl → Prop} {Q : VK} (b : Base K G U H μ) (l : Lk K G H d x) (h : oSl d lo hi R) (k : Con K G U μ R Q) : rSl K x lo hi H Q := by
  cases d with
  | lst ds =>
    obtain ⟨a, xs, rfl, h1, h2⟩ := l.lst b
    exact .inl ⟨a, xs, rfl, h1, fun p hp => k.lst b (h2.cut lo hi) h hp⟩
  | tup ds =>
    obtain ⟨a, xs, e, h1, h2⟩ := l.tup b
    subst e
    refine .inr (.inl ⟨a, xs, rfl, h1, fun w => ?_, fun _ p hp => k.tup b (h2.cut lo hi) h hp⟩)
    have e : cutD ds lo hi = ds := by
      unfold cutD
      rw [h2.len, w.1, w.2]
      simp [← h2.len]
    have h : R (.d (.tup (cutD ds lo hi))) := h
    rw [e] at h
    rcases l with d | ⟨_, y, _, hh, hd⟩
    · exact k.dv b d h
    · cases y <;> first | exact hh.elim | cases hd
  | str z => cases l.str; exact .inr (.inr ⟨z, rfl, h.1, k.str b h.2⟩)
  | _ => exact h.elim
def pNone : PhiO := fun s R => R none s
def pSome (φ : PhiE) : PhiO := fun s R => φ s fun r s1 => match r with
  | .d (.int i) => R (some i) s1
  | _ => False
def eSl (φ : PhiE) (lo hi : PhiO) : PhiE := fun s R => φ s fun r s1 => lo s1 fun i s2 => hi s2 fun j s3 => lk r s3 fun x => oSl x i j fun r => R r s3
end
section
variable {X : Cx} {e : Expr} {φ φ2 : PhiE} {pos p2 : Pos} {lo hi : Option Expr} {πl πh : PhiO}
theorem dp_none : PO X none (liftO X.K pNone) := ⟨fun pins s σ H Q I ⟨G, U, s', R, hs, hr, k⟩ => po_none.run pins s σ H Q I (k _ _ _ _ hr (Same.refl _) hs)⟩
theorem dp_some (h : PE X e (liftE X.K φ)) : PO X (some e) (liftO X.K (pSome φ)) := ⟨fun pins s σ H Q I ⟨G, U, s', R, hs, hr, k⟩ => (po_some h).run pins s σ H Q I ⟨G, U, s', _, hs, hr, fun r s1 G1 H1 v q1 e1 hs1 hv1 => by
  cases r with
  | d d =>
    cases d with
    | int i => cases hv1; exact ⟨i, rfl, k _ _ _ _ q1 e1 hs1⟩
    | _ => exact q1.elim
  | _ => exact q1.elim⟩⟩
theorem de_sl (he : PE X e (liftE X.K φ)) (hl : PO X lo (liftO X.K πl)) (hh : PO X hi (liftO X.K πh)) : PE X (.Subscript e (.Slice lo hi none p2) pos) (liftE X.K (eSl φ πl πh)) :=
  (pe_slice slr he hl hh).imp fun σ H Q ⟨G, U, s, R, hs, hr, k⟩ => by
    refine ⟨G, U, s, _, hs, hr, fun r s1 G1 H1 v q1 e1 hs1 hv1 => ?_⟩
    obtain ⟨G1', e1', hs1', p1⟩ := pin_ok hs1 hv1
    refine ⟨G1', U, s1, _, hs1', q1, fun i s2 G2 H2 q2 e2 hs2 => ⟨G2, U, s2, _, hs2, q2, fun j s3 G3 H3 q3 e3 hs3 => ?_⟩⟩
    rw [← pin_lk] at q3
    obtain ⟨x, lx, q3⟩ := lk_ok hs3 (Pn.mono (e2.trans e3) p1) q3
    exact os_sl hs3.out lx q3 (con_ok hs3 (((e1.trans e1').trans e2).trans e3) k)
end

/-! ### own lists and dicts written -/
section
variable {K : PySem.W.Frag} {G U H : Hp} {σ : L2.St} {s : S} {i : Nat} {a : Addr}
/-- the object that slot i owns is written -/
theorem St.wr {o : HO} {x : Sl} (h : DL.St K G U H σ s) (ha : OwnAt σ s.ρ i a) (hx : Hd K G (upd H a o) a x) : DL.St K G U (upd H a o) σ (s.set i x) := by
  obtain ⟨h1, h2, h3, h4⟩ := h.own_facts ha
  have hi : i < s.ρ.length := by
    by_cases q : i < s.ρ.length
    · exact q
    · have := ha.1
      rw [get_ge _ _ (by omega)] at this
      cases this
  have ne : ∀ {b : Addr} {u : HO} {F : Hp}, F b = some u → F a = none → b ≠ a := fun {b u F} e n z => by rw [z, n] at e; cases e
  refine ⟨⟨fun b u e => by rw [upd_ne (ne e h1)]; exact h.base.sub b u e, fun b u e => by rw [upd_ne (ne e h2)]; exact h.base.usub b u e, h.base.ug, fun b u e => ?_⟩, ?_, fun j => ?_, fun j k b hjk q1 q2 => ?_⟩
  · obtain ⟨g1, g2⟩ := h.base.mu b u e
    refine ⟨g1, g2.mono (Same.refl _) ?_⟩
    rw [upd_ne]
    intro z
    have e : s.μ b = some u := e
    rw [z, h3] at e
    cases e
  · show (put s.ρ i x).length = σ.length
    rw [put_len]
    exact h.len
  · show SlOk K G U (upd H a o) s.μ _ (get (put s.ρ i x) j)
    rw [get_put]
    by_cases hj : j = i ∧ i < s.ρ.length
    · rw [if_pos hj, hj.1]
      exact .ofOwn ⟨a, join_of ha.2, h1, h2, h3, hx⟩
    · rw [if_neg hj]
      cases ho : (get s.ρ j).own with
      | true =>
        obtain ⟨b, e1, ob, g1, g2, g3, g4⟩ := h.ownAt ho
        refine .ofOwn ⟨b, join_of e1, g1, g2, g3, g4.mono (Same.refl _) ?_⟩
        rw [upd_ne]
        intro z
        subst z
        have : j ≠ i := fun w => hj ⟨w, hi⟩
        exact h.dis j i b this ob ha
      | false =>
        have hs := h.slot j
        cases e' : get s.ρ j with
        | no => exact trivial
        | d d => rw [e'] at hs; exact hs
        | b m => rw [e'] at hs; exact hs.elim
        | l ds => rw [e'] at ho; cases ho
        | k ks ds => rw [e'] at ho; cases ho
        | t ks ds => rw [e'] at ho; cases ho
  · have back : ∀ {m : Nat}, OwnAt σ (put s.ρ i x) m b → OwnAt σ s.ρ m b := fun {m} ⟨g1, g2⟩ => by
      by_cases hm : m = i
      · subst hm
        have : b = a := by
          have g3 := ha.2.symm.trans g2
          injection g3 with g3
          injection g3 with g3
          injection g3 with g3
          exact g3.symm
        rw [this]
        exact ha
      · rw [get_put, if_neg (fun z => hm z.1)] at g1
        exact ⟨g1, g2⟩
    exact h.dis j k b hjk (back q1) (back q2)
/-- what slot i owns, kept through what comes -/
theorem own_there (h : DL.St K G U H σ s) {ds : List D} (e : get s.ρ i = .l ds) : ∃ a xs, σ[i]? = some (some (.ref a)) ∧ OwnAt σ s.ρ i a ∧ H a = some (.lst xs) ∧ DVs K G ds xs := by
  obtain ⟨a, e1, oa, h1, h2, h3, h4⟩ := h.ownAt (i := i) (by rw [e]; rfl)
  rw [e] at h4
  obtain ⟨xs, q1, q2⟩ := h4
  exact ⟨a, xs, e1, oa, q1, q2⟩
theorem own_thereK (h : DL.St K G U H σ s) {ks : List Key} {ds : List D} (e : get s.ρ i = .k ks ds) : ∃ a xs, σ[i]? = some (some (.ref a)) ∧ OwnAt σ s.ρ i a ∧ H a = some (.dK (ks.zip xs)) ∧ ks.length = xs.length ∧ DVs K G ds xs := by
  obtain ⟨a, e1, oa, h1, h2, h3, h4⟩ := h.ownAt (i := i) (by rw [e]; rfl)
  rw [e] at h4
  obtain ⟨xs, q1, q2, q3⟩ := h4
  exact ⟨a, xs, e1, oa, q1, q2, q3⟩
end
/-- x.append(e), x a list that slot i owns -/
def sApp (i : Nat) (φ : PhiE) : PhiS := fun Δ s => match get s.ρ i with
  | .l _ => φ s fun r s1 => fz r s1 fun d s2 => match get s2.ρ i with
    | .l ds => ds.length < sizeLine ∧ Δ.nx (s2.set i (.l (ds ++ [d])))
    | _ => False
  | _ => False
section
variable {X : Cx} {e : Expr} {φ φ2 : PhiE} {pos p2 : Pos} {i : Nat}
theorem ds_app {o : Expr} {apos cpos : Pos} (ho : PE X o (tVar i)) (he : PE X e (liftE X.K φ))
    (hbase : attributeBase o "append" X.env (eval o X.env) = eval o X.env := by rfl) (hline : (apos.endLine == cpos.line) = true := by rfl) (hs : starEach [e] X.env = [(false, eval e X.env)] := by rfl) (hsw : swapsWith (.Call (.Attribute o "append" apos) [e] [] cpos) none pos.line X.env = pure false := by rfl)
    (hfew : ((backTo cpos (starEach [e] X.env)).all (fun x => !x.1) && (backToKw cpos (keywordEach [] X.env)).all (fun x => x.1.isSome) && decide ([e].length + ([] : List Keyword).length + (if ([] : List Keyword).isEmpty then 0 else 1) < 30)) = true := by rfl) :
    PS X (.Expr (.Call (.Attribute o "append" apos) [e] [] cpos) pos) (liftS X.K (sApp i φ)) :=
  (ps_expr (pe_bm PySem.F.plainAttrs_list PySem.F.slot_list_append PySem.F.type_list_append mt_append ho (pa_cons he pa_nil (by rw [hs] <;> rfl)) hbase hfew hline (by rw [hs] <;> rfl) rfl) hsw).imp fun E σ H ⟨G, U, s, Δ, hst, hr, k⟩ => by
    unfold sApp at hr
    cases e0 : get s.ρ i with
    | l ds0 =>
      rw [e0] at hr
      obtain ⟨a, xs, q1, q2, q3, q4⟩ := own_there hst e0
      refine ⟨.ref a, q1, .inl ⟨rfl, xs, SqL.of q3⟩, G, U, s, _, hst, hr, fun r s1 G1 H1 v r1 e1 hs1 hv1 => ?_⟩
      obtain ⟨G1', e1', hs1', d1⟩ := frz_ok hs1 hv1
      have r1 : (match get (frz s1 r).2.ρ i with | .l ds => ds.length < sizeLine ∧ Δ.nx ((frz s1 r).2.set i (.l (ds ++ [(frz s1 r).1]))) | _ => False) := r1
      cases e2 : get (frz s1 r).2.ρ i with
      | l ds =>
        rw [e2] at r1
        obtain ⟨a', xs', p1, p2, p3, p4⟩ := own_there hs1' e2
        have : a' = a := by
          rw [q1] at p1
          injection p1 with p1
          injection p1 with p1
          injection p1 with p1
          exact p1.symm
        subst this
        refine ⟨a', xs', v, rfl, rfl, p3, by rw [← p4.len]; exact r1.1, ?_⟩
        exact k.nx _ G1' _ σ r1.2 (e1.trans e1') (hs1'.wr p2 ⟨_, upd_same, p4.app (DVs.one d1)⟩)
      | _ => rw [e2] at r1; exact r1.elim
    | _ => rw [e0] at hr; exact hr.elim
/-- {} -/
def eDicK : PhiE := fun s R => R (.k [] []) s
theorem de_dnew : PE X (.Dict [] [] pos) (liftE X.K eDicK) := pe_dnewK.imp fun σ H Q ⟨G, U, s, R, hs, hr, k⟩ => fun p hp => by
  obtain ⟨h1, h2, h3, h4, h5⟩ := hs.new (o := .dK []) hp
  exact k _ s G _ _ hr (Same.refl _) h1 ⟨p, rfl, h2, h3, h4, ⟨[], upd_same, rfl, rfl⟩, h5⟩
/-- x[e1] = e, x a dict of the slot's own -/
def drep : List Key → List D → Key → D → List D
  | k :: ks, d :: ds, x, y => (if k = x then y else d) :: drep ks ds x y
  | _, _, _, _ => []
def dhas (ks : List Key) (x : Key) : Bool := ks.any fun k => decide (k = x)
theorem drep_ok {K : PySem.W.Frag} {G : Hp} {y : D} {w : V} (hw : DV K G y w) {x : Key} : ∀ {ks : List Key} {ds : List D} {vs : List V}, ks.length = vs.length → DVs K G ds vs →
    ∃ us, (ks.zip vs).map (fun kv => if kv.1 = x then (kv.1, w) else kv) = ks.zip us ∧ ks.length = us.length ∧ DVs K G (drep ks ds x y) us
  | [], _, _, hl, h => ⟨[], rfl, rfl, by cases ‹List D› <;> exact rfl⟩
  | k :: ks, [], vs, hl, h => by
    have h : vs = [] := h
    subst h
    simp at hl
  | k :: ks, d :: ds, vs, hl, ⟨v, r, h1, h2, h3⟩ => by
    subst h1
    obtain ⟨us, e1, e2, e3⟩ := drep_ok hw (x := x) (ks := ks) (ds := ds) (vs := r) (by simpa using hl) h3
    by_cases e : k = x
    · refine ⟨w :: us, ?_, by simp [e2], w, us, rfl, ?_, e3⟩
      · show (if k = x then (k, w) else (k, v)) :: (ks.zip r).map _ = (k, w) :: ks.zip us
        rw [if_pos e, e1]
      · show DV K G (if k = x then y else d) w
        rw [if_pos e]
        exact hw
    · refine ⟨v :: us, ?_, by simp [e2], v, us, rfl, ?_, e3⟩
      · show (if k = x then (k, w) else (k, v)) :: (ks.zip r).map _ = (k, v) :: ks.zip us
        rw [if_neg e, e1]
      · show DV K G (if k = x then y else d) v
        rw [if_neg e]
        exact h2
theorem any_zip {α : Type} (x : Key) : ∀ (ks : List Key) (vs : List α), ks.length = vs.length → ((ks.zip vs).any fun kv => decide (kv.1 = x)) = dhas ks x
  | [], _, _ => rfl
  | k :: ks, [], h => by simp at h
  | k :: ks, v :: vs, h => by
    show (decide (k = x) || (ks.zip vs).any fun kv => decide (kv.1 = x)) = (decide (k = x) || ks.any fun k => decide (k = x))
    rw [any_zip x ks vs (by simpa using h)]
    rfl
theorem dput_ok {K : PySem.W.Frag} {G : Hp} {y : D} {w : V} (hw : DV K G y w) {x : Key} {ks : List Key} {ds : List D} {vs : List V} (hl : ks.length = vs.length) (h : DVs K G ds vs) :
    ∃ us, putK (ks.zip vs) x w = (if dhas ks x = true then ks else ks ++ [x]).zip us ∧ (if dhas ks x = true then ks else ks ++ [x]).length = us.length ∧ DVs K G (if dhas ks x = true then drep ks ds x y else ds ++ [y]) us := by
  unfold putK
  rw [any_zip x ks vs hl]
  by_cases e : dhas ks x = true
  · rw [if_pos e, if_pos e, if_pos e]
    exact drep_ok hw hl h
  · rw [if_neg e, if_neg e, if_neg e]
    exact ⟨vs ++ [w], by rw [List.zip_append hl]; rfl, by simp [hl], h.app (DVs.one hw)⟩
def sDPut (i : Nat) (φk φ : PhiE) : PhiS := fun Δ s => φ s fun r s1 => fz r s1 fun d s2 => match get s2.ρ i with
  | .k _ _ => φk s2 fun rk s3 => lk rk s3 fun dk => match keyOf dk with
    | some x => match get s3.ρ i with
      | .k ks ds => ks.length < sizeLine ∧ Δ.nx (if dhas ks x = true then s3.set i (.k ks (drep ks ds x d)) else s3.set i (.k (ks ++ [x]) (ds ++ [d])))
      | _ => False
    | none => False
  | _ => False
theorem ds_dput {o e1 : Expr} {φk : PhiE} {pos' : Pos} (hu : X.A.units + 64 < cLine) (ho : PE X o (tVar i)) (hi : PE X e1 (liftE X.K φk)) (hv : PE X e (liftE X.K φ)) (hs : swapsWith e (some (.Subscript o e1 pos')) pos.line X.env = pure false := by rfl) :
    PS X (.Assign [.Subscript o e1 pos'] e pos) (liftS X.K (sDPut i φk φ)) :=
  (ps_dput (by omega) ho hi hv hs).imp fun E σ H ⟨G, U, s, Δ, hst, hr, k⟩ => by
    refine ⟨G, U, s, _, hst, hr, fun r s1 G1 H1 v q1 e1 hs1 hv1 => ?_⟩
    obtain ⟨G1', e1', hs1', d1⟩ := frz_ok hs1 hv1
    have q1 : (match get (frz s1 r).2.ρ i with
      | .k _ _ => φk (frz s1 r).2 fun rk s3 => lk rk s3 fun dk => match keyOf dk with
        | some x => match get s3.ρ i with
          | .k ks ds => ks.length < sizeLine ∧ Δ.nx (if dhas ks x = true then s3.set i (.k ks (drep ks ds x (frz s1 r).1)) else s3.set i (.k (ks ++ [x]) (ds ++ [(frz s1 r).1])))
          | _ => False
        | none => False
      | _ => False) := q1
    cases e0 : get (frz s1 r).2.ρ i with
    | k ks0 ds0 =>
      rw [e0] at q1
      obtain ⟨a, xs, p1, p2, p3, p4, p5⟩ := own_thereK hs1' e0
      refine ⟨.ref a, p1, G1', U, _, _, hs1', q1, fun rk s3 G3 H3 vk q3 e3 hs3 hv3 => ?_⟩
      obtain ⟨G3', e3', hs3', pn⟩ := pin_ok hs3 hv3
      rw [← pin_lk] at q3
      obtain ⟨dk, lx, q3⟩ := lk_ok hs3' pn q3
      cases ek : keyOf dk with
      | none => rw [ek] at q3; exact q3.elim
      | some x =>
        rw [ek] at q3
        have q3 : (match get s3.ρ i with
          | .k ks ds => ks.length < sizeLine ∧ Δ.nx (if dhas ks x = true then s3.set i (.k ks (drep ks ds x (frz s1 r).1)) else s3.set i (.k (ks ++ [x]) (ds ++ [(frz s1 r).1])))
          | _ => False) := q3
        cases e4 : get s3.ρ i with
        | k ks ds =>
          rw [e4] at q3
          obtain ⟨a', us, g1, g2, g3, g4, g5⟩ := own_thereK hs3' e4
          have : a' = a := by
            have z := p1.symm.trans g1
            injection z with z
            injection z with z
            injection z with z
            exact z.symm
          subst this
          have hw := (d1.mono e3).mono e3'
          obtain ⟨ws, z1, z2, z3⟩ := dput_ok (y := (frz s1 r).1) hw (x := x) (ks := ks) (ds := ds) g4 g5
          have hlen : (ks.zip us).length < sizeLine := by
            rw [List.length_zip]
            have := q3.1
            omega
          refine ⟨a', upd H3 a' (.dK (putK (ks.zip us) x v)), rfl, .inl ⟨ks.zip us, x, g3, keyOf_ok lx ek, hlen, rfl⟩, ?_⟩
          have fin : ∀ {S' : S}, DL.St X.K G3' U (upd H3 a' (.dK (putK (ks.zip us) x v))) σ S' → Δ.nx S' → E.nx σ (upd H3 a' (.dK (putK (ks.zip us) x v))) := fun {S'} a b => k.nx S' G3' _ σ b ((((e1.trans e1').trans e3).trans e3')) a
          have q4 : Δ.nx (if dhas ks x = true then s3.set i (.k ks (drep ks ds x (frz s1 r).1)) else s3.set i (.k (ks ++ [x]) (ds ++ [(frz s1 r).1]))) := q3.2
          by_cases hd : dhas ks x = true
          · rw [if_pos hd] at q4
            rw [if_pos hd] at z1 z2
            rw [if_pos hd] at z3
            exact fin (hs3'.wr (x := .k ks (drep ks ds x (frz s1 r).1)) g2 ⟨ws, by rw [z1]; exact upd_same, z2, z3⟩) q4
          · rw [if_neg hd] at q4
            rw [if_neg hd] at z1 z2
            rw [if_neg hd] at z3
            exact fin (hs3'.wr (x := .k (ks ++ [x]) (ds ++ [(frz s1 r).1])) g2 ⟨ws, by rw [z1]; exact upd_same, z2, z3⟩) q4
        | _ => rw [e4] at q3; exact q3.elim
    | _ => rw [e0] at q1; exact q1.elim
end
end DL
/-! DL8: comprehensions. -/
namespace DL
open PySem PySem.Spec PyProof.Rows L2

/-- the slots of a block's own names forgotten -/
def clr : List Nat → S → S
  | [], s => s
  | i :: r, s => clr r (s.set i .no)
def keepD : Sl → Sl
  | .d d => .d d
  | _ => .no
theorem keepD_ok (x : Sl) : keepD x = .no ∨ ∃ d, keepD x = .d d ∧ x = .d d := by
  cases x <;> first | exact .inl rfl | exact .inr ⟨_, rfl, rfl⟩
/-- .. and given back what they held, where it was a tree -/
def bck : List Nat → S → S → S
  | [], _, s => s
  | i :: r, s0, s => bck r s0 (s.set i (keepD (get s0.ρ i)))
def lcL (vs : List Nat) (s0 : S) (γ : PhiG) (τ : PhiT) (φ : PhiE) (R : Sl → S → Prop) : List D → List D → S → Prop
  | [], acc, s => R (.l acc) (bck vs s0 s)
  | d :: ds, acc, s => γ d s fun s1 => τ s1 fun b s2 => if b = true then φ s2 fun r s3 => fz r s3 fun y s4 => acc.length < sizeLine ∧ lcL vs s0 γ τ φ R ds (acc ++ [y]) (clr vs s4) else lcL vs s0 γ τ φ R ds acc (clr vs s2)
def eLc (π : PhiI) (vs : List Nat) (γ : PhiG) (τ : PhiT) (φ : PhiE) : PhiE := fun s R => π s fun ds s1 => lcL vs s1 γ τ φ R ds [] (clr vs s1)

section
variable {K : PySem.W.Frag} {G G' U H H' : Hp} {σ : L2.St} {s s0 : S} {vs : List Nat} {p : Addr}
theorem clr_get : ∀ (vs : List Nat) (s : S) (j : Nat), get (clr vs s).ρ j = if j ∈ vs then .no else get s.ρ j
  | [], s, j => by simp [clr]
  | i :: r, s, j => by
    show get (clr r (s.set i .no)).ρ j = _
    rw [clr_get r (s.set i .no) j]
    show (if j ∈ r then Sl.no else get (put s.ρ i .no) j) = _
    rw [get_put]
    by_cases h1 : j ∈ r
    · simp [h1]
    · by_cases h2 : j = i
      · subst h2
        by_cases h3 : j < s.ρ.length
        · simp [h1, h3]
        · have := get_ge s.ρ j (by omega)
          simp [h1, h3, this]
      · simp [h1, h2]
theorem clr_mu : ∀ (vs : List Nat) (s : S), (clr vs s).μ = s.μ
  | [], s => rfl
  | i :: r, s => clr_mu r (s.set i .no)
theorem clr_len : ∀ (vs : List Nat) (s : S), (clr vs s).ρ.length = s.ρ.length
  | [], s => rfl
  | i :: r, s => (clr_len r (s.set i .no)).trans (put_len s.ρ i .no)
theorem bck_mu : ∀ (vs : List Nat) (s0 s : S), (bck vs s0 s).μ = s.μ
  | [], _, s => rfl
  | i :: r, s0, s => bck_mu r s0 _
theorem bck_len : ∀ (vs : List Nat) (s0 s : S), (bck vs s0 s).ρ.length = s.ρ.length
  | [], _, s => rfl
  | i :: r, s0, s => (bck_len r s0 _).trans (put_len _ _ _)
theorem bck_get : ∀ (vs : List Nat) (s0 s : S) (j : Nat), (j ∉ vs ∧ get (bck vs s0 s).ρ j = get s.ρ j) ∨ (j ∈ vs ∧ (get (bck vs s0 s).ρ j = .no ∨ ∃ d, get (bck vs s0 s).ρ j = .d d ∧ get s0.ρ j = .d d))
  | [], s0, s, j => .inl ⟨by simp, rfl⟩
  | i :: r, s0, s, j => by
    have step : ∀ x : Sl, (x = .no ∨ ∃ d, x = .d d ∧ get s0.ρ i = .d d) → (j ∉ i :: r ∧ get (bck r s0 (s.set i x)).ρ j = get s.ρ j) ∨ (j ∈ i :: r ∧ (get (bck r s0 (s.set i x)).ρ j = .no ∨ ∃ d, get (bck r s0 (s.set i x)).ρ j = .d d ∧ get s0.ρ j = .d d)) := fun x hx => by
      rcases bck_get r s0 (s.set i x) j with ⟨h1, h2⟩ | ⟨h1, h2⟩
      · have e : get (s.set i x).ρ j = if j = i ∧ i < s.ρ.length then x else get s.ρ j := get_put s.ρ i j x
        rw [e] at h2
        by_cases hj : j = i
        · subst hj
          refine .inr ⟨by simp, ?_⟩
          by_cases hl : j < s.ρ.length
          · rw [if_pos ⟨rfl, hl⟩] at h2
            rw [h2]
            rcases hx with rfl | ⟨d, rfl, hd⟩
            · exact .inl rfl
            · exact .inr ⟨d, rfl, hd⟩
          · rw [if_neg (fun z => hl z.2), get_ge s.ρ j (by omega)] at h2
            exact .inl h2
        · rw [if_neg (fun z => hj z.1)] at h2
          exact .inl ⟨by simp [hj, h1], h2⟩
      · exact .inr ⟨by simp [h1], h2⟩
    exact step (keepD (get s0.ρ i)) (keepD_ok _)
theorem wipe_get : ∀ {vs : List Nat} {σ : L2.St} {i : Nat} {v : V}, (wipe σ vs)[i]? = some (some v) ↔ σ[i]? = some (some v) ∧ i ∉ vs := fun {vs σ i v} => by
  refine ⟨wipe_some, fun ⟨h1, h2⟩ => ?_⟩
  rw [wipe_out h2]
  exact h1
theorem own_clr {i : Nat} {a : Addr} : OwnAt (wipe σ vs) (clr vs s).ρ i a → OwnAt σ s.ρ i a := fun ⟨h1, h2⟩ => by
  obtain ⟨h3, h4⟩ := wipe_get.mp h2
  rw [clr_get, if_neg h4] at h1
  exact ⟨h1, h3⟩
/-- into the block -/
theorem St.into (h : DL.St K G U H σ s) : DL.St K G U H (wipe σ vs) (clr vs s) := by
  refine ⟨by rw [clr_mu]; exact h.base, by rw [clr_len, wipe_length]; exact h.len, fun j => ?_, fun i j a hij q1 q2 => h.dis i j a hij (own_clr q1) (own_clr q2)⟩
  rw [clr_get, clr_mu]
  by_cases hj : j ∈ vs
  · rw [if_pos hj]
    exact trivial
  · rw [if_neg hj, wipe_out hj]
    exact h.slot j
/-- once more: from a turn's end to the next one's start -/
theorem St.again (h : DL.St K G U H (wipe σ vs) s) : DL.St K G U H (wipe σ vs) (clr vs s) := by
  refine ⟨by rw [clr_mu]; exact h.base, by rw [clr_len]; exact h.len, fun j => ?_, fun i j a hij q1 q2 => h.dis i j a hij ?_ ?_⟩
  · rw [clr_get, clr_mu]
    by_cases hj : j ∈ vs
    · rw [if_pos hj]
      exact trivial
    · rw [if_neg hj]
      exact h.slot j
  · have := q1.1
    rw [clr_get] at this
    split at this
    · cases this
    · exact ⟨this, q1.2⟩
  · have := q2.1
    rw [clr_get] at this
    split at this
    · cases this
    · exact ⟨this, q2.2⟩
/-- out of the block -/
theorem St.outof {G0 : Hp} {U0 H0 : Hp} (h0 : DL.St K G0 U0 H0 σ s0) (e : Same G0 G) (h : DL.St K G U H (wipe σ vs) s) : DL.St K G U H σ (bck vs s0 s) := by
  have back : ∀ {i : Nat} {a : Addr}, OwnAt σ (bck vs s0 s).ρ i a → OwnAt (wipe σ vs) s.ρ i a := fun {i a} ⟨q1, q2⟩ => by
    rcases bck_get vs s0 s i with ⟨h1, h2⟩ | ⟨h1, h2 | ⟨d, h2, _⟩⟩
    · rw [h2] at q1
      exact ⟨q1, wipe_get.mpr ⟨q2, h1⟩⟩
    · rw [h2] at q1
      cases q1
    · rw [h2] at q1
      cases q1
  refine ⟨by rw [bck_mu]; exact h.base, by rw [bck_len, h.len, wipe_length], fun j => ?_, fun i j a hij q1 q2 => h.dis i j a hij (back q1) (back q2)⟩
  rw [bck_mu]
  rcases bck_get vs s0 s j with ⟨h1, h2⟩ | ⟨h1, h2 | ⟨d, h2, h3⟩⟩
  · rw [h2, ← wipe_out (σ := σ) h1]
    exact h.slot j
  · rw [h2]
    exact trivial
  · rw [h2]
    have := h0.slot j
    rw [h3] at this
    obtain ⟨v, q1, q2⟩ := this
    exact ⟨v, q1, q2.mono e⟩
theorem only_wipe {ws : List Nat} {σ' : L2.St} (h : Only ws (wipe σ vs) σ') (hl : σ'.length = σ.length) (hw : ∀ i ∈ ws, i ∈ vs) : wipe σ' vs = wipe σ vs := by
  apply List.ext_getElem?
  intro i
  by_cases hi : i ∈ vs
  · have a : ∀ τ : L2.St, (wipe τ vs)[i]? = some none ∨ (wipe τ vs)[i]? = none := fun τ => by
      cases e : (wipe τ vs)[i]? with
      | none => exact .inr rfl
      | some o =>
        cases o with
        | none => exact .inl rfl
        | some v => exact absurd hi (wipe_some e).2
    have l1 : (wipe σ' vs).length = (wipe σ vs).length := by rw [wipe_length, wipe_length, hl]
    rcases a σ' with h1 | h1
    · rcases a σ with h2 | h2
      · rw [h1, h2]
      · have : (wipe σ vs).length ≤ i := List.getElem?_eq_none_iff.mp h2
        rw [← l1] at this
        rw [List.getElem?_eq_none_iff.mpr this] at h1
        cases h1
    · rcases a σ with h2 | h2
      · have : (wipe σ' vs).length ≤ i := List.getElem?_eq_none_iff.mp h1
        rw [l1] at this
        rw [List.getElem?_eq_none_iff.mpr this] at h2
        cases h2
      · rw [h1, h2]
  · rw [wipe_out hi, wipe_out hi]
    have := h i fun z => hi (hw i z)
    rw [this, wipe_out hi]
/-- one that is no one's, kept aside -/
theorem St.aside {o : HO} (h : DL.St K G U H σ s) (hp : H p = some o) (hg : G p = none) (hm : s.μ p = none) (hn : ∀ i, ¬ OwnAt σ s.ρ i p) : DL.St K G (upd U p o) H σ s := by
  refine ⟨⟨h.base.sub, fun b u e => ?_, fun b u e => ?_, h.base.mu⟩, h.len, fun j => ?_, h.dis⟩
  · by_cases hb : b = p
    · subst hb
      rw [upd_same] at e
      cases e
      exact hp
    · rw [upd_ne hb] at e
      exact h.base.usub b u e
  · by_cases hb : b = p
    · subst hb
      exact ⟨hg, hm⟩
    · rw [upd_ne hb] at e
      exact h.base.ug b u e
  · have hs := h.slot j
    cases hx : (get s.ρ j).own with
    | true =>
      obtain ⟨a, e1, oa, h1, h2, h3, h4⟩ := h.ownAt hx
      refine .ofOwn ⟨a, join_of e1, h1, ?_, h3, h4⟩
      rw [upd_ne]
      · exact h2
      · intro z
        subst z
        exact hn j oa
    | false =>
      cases e' : get s.ρ j with
      | no => exact trivial
      | d d => rw [e'] at hs; exact hs
      | b m => rw [e'] at hs; exact hs.elim
      | l ds => rw [e'] at hx; cases hx
      | k ks ds => rw [e'] at hx; cases hx
      | t ks ds => rw [e'] at hx; cases hx
theorem St.unaside {o : HO} (h : DL.St K G (upd U p o) H σ s) (hu : U p = none) : DL.St K G U H σ s := by
  have un : ∀ b u, U b = some u → upd U p o b = some u := fun b u e => by
    rw [upd_ne (ne_of_none e hu)]
    exact e
  have non : ∀ b, upd U p o b = none → U b = none := fun b e => by
    cases q : U b with
    | none => rfl
    | some u => rw [un b u q] at e; cases e
  refine ⟨⟨h.base.sub, fun b u e => h.base.usub b u (un b u e), fun b u e => h.base.ug b u (un b u e), h.base.mu⟩, h.len, fun j => ?_, h.dis⟩
  have hs := h.slot j
  cases hx : (get s.ρ j).own with
  | true =>
    obtain ⟨a, e1, oa, h1, h2, h3, h4⟩ := h.ownAt hx
    exact .ofOwn ⟨a, join_of e1, h1, non a h2, h3, h4⟩
  | false =>
    cases e' : get s.ρ j with
    | no => exact trivial
    | d d => rw [e'] at hs; exact hs
    | b m => rw [e'] at hs; exact hs.elim
    | l ds => rw [e'] at hx; cases hx
    | k ks ds => rw [e'] at hx; cases hx
    | t ks ds => rw [e'] at hx; cases hx
theorem St.aside_no {o : HO} {i : Nat} (h : DL.St K G (upd U p o) H σ s) : ¬ OwnAt σ s.ρ i p := fun hi => by
  have := (h.own_facts hi).2.1
  rw [upd_same] at this
  cases this
/-- what is aside is written -/
theorem St.asideWr {o o' : HO} (h : DL.St K G (upd U p o) H σ s) : DL.St K G (upd U p o') (upd H p o') σ s := by
  have hug := h.base.ug p o upd_same
  have nown : ∀ i, ¬ OwnAt σ s.ρ i p := fun i => h.aside_no
  refine ⟨⟨fun b u e => ?_, fun b u e => ?_, fun b u e => ?_, fun b u e => ?_⟩, h.len, fun j => ?_, h.dis⟩
  · rw [upd_ne (ne_of_none e hug.1)]
    exact h.base.sub b u e
  · by_cases hb : b = p
    · subst hb
      rw [upd_same] at e ⊢
      exact e
    · rw [upd_ne hb] at e ⊢
      exact h.base.usub b u (by rw [upd_ne hb]; exact e)
  · by_cases hb : b = p
    · subst hb
      exact hug
    · rw [upd_ne hb] at e
      exact h.base.ug b u (by rw [upd_ne hb]; exact e)
  · obtain ⟨g1, g2⟩ := h.base.mu b u e
    refine ⟨g1, g2.mono (Same.refl _) ?_⟩
    rw [upd_ne]
    intro z
    rw [z, hug.2] at e
    cases e
  · have hs := h.slot j
    cases hx : (get s.ρ j).own with
    | true =>
      obtain ⟨a, e1, oa, h1, h2, h3, h4⟩ := h.ownAt hx
      have hap : a ≠ p := fun z => by subst z; exact nown j oa
      rw [upd_ne hap] at h2
      exact .ofOwn ⟨a, join_of e1, h1, by rw [upd_ne hap]; exact h2, h3, h4.mono (Same.refl _) (by rw [upd_ne hap])⟩
    | false =>
      cases e' : get s.ρ j with
      | no => exact trivial
      | d d => rw [e'] at hs; exact hs
      | b m => rw [e'] at hs; exact hs.elim
      | l ds => rw [e'] at hx; cases hx
      | k ks ds => rw [e'] at hx; cases hx
      | t ks ds => rw [e'] at hx; cases hx
theorem only_len {ws : List Nat} {σ' : L2.St} {s' : S} (h : DL.St K G U H σ' s') (h0 : DL.St K G' U H' σ s0) (e : s'.ρ.length = s0.ρ.length) : σ'.length = σ.length := by rw [← h.len, ← h0.len, e]
end
/-- a target that keeps the number of slots -/
def KeepG (γ : PhiG) : Prop := ∀ d s R, γ d s R → γ d s fun s' => s'.ρ.length = s.ρ.length ∧ R s'
def KeepGs (γ : PhiGs) : Prop := ∀ d s R, γ d s R → γ d s fun s' => s'.ρ.length = s.ρ.length ∧ R s'
theorem keep_n {i : Nat} : KeepG (gN i) := fun d s R h => ⟨put_len _ _ _, h⟩
def MonoGs (γ : PhiGs) : Prop := ∀ d s R R', (∀ s, R s → R' s) → γ d s R → γ d s R'
def MonoG (γ : PhiG) : Prop := ∀ d s R R', (∀ s, R s → R' s) → γ d s R → γ d s R'
theorem mono_n {i : Nat} : MonoG (gN i) := fun d s R R' h q => h _ q
theorem mono_nil : MonoGs gsNil := fun ds s R R' h q => by
  cases ds with
  | nil => exact h _ q
  | cons d r => exact q
theorem mono_cons {γ : PhiG} {γs : PhiGs} (h1 : MonoG γ) (h2 : MonoGs γs) : MonoGs (gsCons γ γs) := fun ds s R R' h q => by
  cases ds with
  | nil => exact q
  | cons d r => exact h1 d s _ _ (fun s1 q1 => h2 r s1 _ _ h q1) q
theorem mono_t {n : Nat} {γs : PhiGs} (h : MonoGs γs) : MonoG (gT n γs) := fun d s R R' hr q => by
  cases d with
  | tup ds =>
    have q : if ds.length = n then γs ds s R else False := q
    show if ds.length = n then γs ds s R' else False
    by_cases e : ds.length = n
    · rw [if_pos e] at q ⊢
      exact h ds s R R' hr q
    · rw [if_neg e] at q
      exact q.elim
  | _ => exact q
theorem keep_nil : KeepGs gsNil := fun ds s R q => by
  cases ds with
  | nil => exact ⟨rfl, q⟩
  | cons d r => exact q
theorem keep_cons {γ : PhiG} {γs : PhiGs} (m : MonoG γ) (h1 : KeepG γ) (h2 : KeepGs γs) (m2 : MonoGs γs) : KeepGs (gsCons γ γs) := fun ds s R q => by
  cases ds with
  | nil => exact q
  | cons d r => exact m d s _ _ (fun s1 ⟨e1, q1⟩ => m2 r s1 _ _ (fun s2 ⟨e2, q2⟩ => ⟨e2.trans e1, q2⟩) (h2 r s1 _ q1)) (h1 d s _ q)
theorem keep_t {n : Nat} {γs : PhiGs} (h : KeepGs γs) : KeepG (gT n γs) := fun d s R q => by
  cases d with
  | tup ds =>
    have q : if ds.length = n then γs ds s R else False := q
    show if ds.length = n then γs ds s _ else False
    by_cases e : ds.length = n
    · rw [if_pos e] at q ⊢
      exact h ds s R q
    · rw [if_neg e] at q
      exact q.elim
  | _ => exact q
section
variable {X : Cx} {γ : PhiG} {τ : PhiT} {φ : PhiE} {π : PhiI} {vs ws : List Nat}
/-- what a comprehension is: over D's own list -/
theorem lc_of {σ : L2.St} {H : Hp} {Q : VK} (hk : KeepG γ) (hw : ∀ i ∈ ws, i ∈ vs) (q : liftE X.K (eLc π vs γ τ φ) σ H Q) : tLc (liftI X.K π) (liftG X.K ws γ) (liftT X.K τ) (liftE X.K φ) vs σ H Q := by
  obtain ⟨G, U, s, R, hs, hr, k⟩ := q
  refine ⟨G, U, s, _, hs, hr, fun ds s1 G1 H1 J q1 e1 hs1 gv D hD => ?_⟩
  obtain ⟨n1, n2, n3, n4, n5⟩ := hs1.new (o := .lst []) hD
  have a1 := (n1.aside upd_same n2 n4 n5).into (vs := vs)
  refine ⟨fun i m H' => ∃ s' G' acc as, m = ds.length - i ∧ i ≤ ds.length ∧ Same G1 G' ∧ DL.St X.K G' (upd U D (.lst as)) H' (wipe σ vs) s' ∧ DVs X.K G' acc as ∧ lcL vs s1 γ τ φ R (ds.drop i) acc s',
    ⟨ds.length, clr vs s1, G1, [], [], by simp, Nat.zero_le _, Same.refl _, a1, rfl, by simpa using q1⟩, ?_⟩
  rintro i m H' ⟨s', G', acc, as, rfl, hi', e', hs', hacc, q⟩
  have hb := hs'.base
  by_cases hlt : i < ds.length
  · rw [List.drop_eq_getElem_cons hlt] at q
    refine .inr ⟨gv.go i H' G' _ s'.μ hlt e' hb, fun H2 => ∃ s2 G2 acc2 as2, Same G1 G2 ∧ DL.St X.K G2 (upd U D (.lst as2)) H2 (wipe σ vs) s2 ∧ DVs X.K G2 acc2 as2 ∧ lcL vs s1 γ τ φ R (ds.drop (i + 1)) acc2 s2,
      fun H2 ⟨s2, G2, acc2, as2, e2, hs2, hacc2, q2⟩ => ⟨ds.length - (i + 1), by omega, s2, G2, acc2, as2, rfl, hlt, e2, hs2, hacc2, q2⟩, fun x H2 y => ?_⟩
    obtain ⟨G2, e2, dv, st⟩ := gv.yld i H' G' _ s'.μ x H2 hlt e' hb y
    have hst := st _ s' rfl hs'
    refine ⟨G2, upd U D (.lst as), s', ds[i], _, hst, dv, hk _ _ _ q, fun s3 σ3 G3 H3 q3 e3 hs3 o3 => ?_⟩
    have hw3 : wipe σ3 vs = wipe σ vs := by
      refine only_wipe o3 ?_ hw
      rw [← hs3.len, q3.1, hst.len, wipe_length]
    refine ⟨hw3, ?_⟩
    refine ⟨G3, _, s3, _, hs3, q3.2, fun b s4 G4 H4 q4 e4 hs4 => ?_⟩
    have e14 : Same G1 G4 := ((e'.trans e2).trans e3).trans e4
    cases b with
    | true =>
      refine ⟨G4, _, s4, _, hs4, q4, fun r s5 G5 H5 v q5 e5 hs5 hv5 => ?_⟩
      obtain ⟨G6, e6, hs6, d6⟩ := frz_ok hs5 hv5
      have q5 : acc.length < sizeLine ∧ lcL vs s1 γ τ φ R (ds.drop (i + 1)) (acc ++ [(frz s5 r).1]) (clr vs (frz s5 r).2) := q5
      have ex : Same G' G6 := (((e2.trans e3).trans e4).trans e5).trans e6
      refine ⟨as, hs6.base.usub D _ upd_same, by rw [← hacc.len]; exact q5.1, clr vs (frz s5 r).2, G6, acc ++ [(frz s5 r).1], as ++ [v], (e14.trans e5).trans e6, ?_, (hacc.mono ex).app (DVs.one d6), q5.2⟩
      have := (hs6.asideWr (o' := .lst (as ++ [v]))).into (vs := vs)
      rw [hw3] at this
      exact this
    | false =>
      refine ⟨clr vs s4, G4, acc, as, e14, ?_, hacc.mono (((e2.trans e3).trans e4)), q4⟩
      have := hs4.into (vs := vs)
      rw [hw3] at this
      exact this
  · have : i = ds.length := by omega
    subst this
    rw [List.drop_length] at q
    refine .inl ⟨gv.stop H' G' _ s'.μ e' hb, ?_⟩
    have fin : DL.St X.K G' (upd U D (.lst as)) H' σ (bck vs s1 s') := St.outof hs1 e' hs'
    have hug := fin.base.ug D _ upd_same
    exact k (.l acc) (bck vs s1 s') G' H' (.ref D) q (e1.trans e') (fin.unaside n3) ⟨D, rfl, hug.1, n3, hug.2, ⟨as, fin.base.usub D _ upd_same, hacc⟩, fun j => fin.aside_no⟩
/-- tests of a comprehension: none, one -/
theorem dts_nil : PTs X [] (liftT X.K (fun s R => R true s)) := ⟨fun pins s σ H Q I ⟨G, U, s', R, hs, hr, k⟩ => pts_nil.run pins s σ H Q I (k _ _ _ _ hr (Same.refl _) hs)⟩
theorem dts_one {c : Expr} (h : PT X c (liftT X.K τ)) : PTs X [c] (liftT X.K τ) := pts_one h
theorem de_lc {elt tg iter : Expr} {ifs : List Expr} {scope : Scope} {own : List (Str × Nat)} {pos : Pos} (hc : X.calm = true) (hN : X.N.Nodup) (hi : PI X tg iter (liftI X.K π)) (ok : BlkOk X.N X.env.scope scope own) (hk : KeepG γ) (hw : ∀ i ∈ ws, i ∈ own.map (·.2))
    (hg : ∀ (s : Shared) (H : Hp) (C : Addr) (cl : List (Str × Addr)) (fp : List Addr), PG (X.blk s H scope (compEnvC scope cl C X.env) fp) tg (liftG X.K ws γ)) (ht : ∀ (s : Shared) (H : Hp) (C : Addr) (cl : List (Str × Addr)) (fp : List Addr), PTs (X.blk s H scope (compEnvC scope cl C X.env) fp) ifs (liftT X.K τ))
    (he : ∀ (s : Shared) (H : Hp) (C : Addr) (cl : List (Str × Addr)) (fp : List Addr), PE (X.blk s H scope (compEnvC scope cl C X.env) fp) elt (liftE X.K φ)) (hs : ∀ x, foldedSetIterable iter X.env x = pure x := by intro _; rfl) :
    PE X (.ListComp elt [⟨tg, iter, ifs, 0⟩] scope pos) (liftE X.K (eLc π (own.map (·.2)) γ τ φ)) :=
  (pe_lc hc hN hi ok hg ht he hs).imp fun _ _ _ q => lc_of hk hw q
theorem ds_setLc {i : Nat} {y : Str} {py : Pos} {elt tg iter : Expr} {ifs : List Expr} {scope : Scope} {own : List (Str × Nat)} {pos spos : Pos} (hc : X.calm = true) (hN : X.N.Nodup) (hy : X.N[i]? = some y) (hyl : X.env.scope.names.lookup y = some .local)
    (hsw : swapsWith (.ListComp elt [⟨tg, iter, ifs, 0⟩] scope pos) (some (.Name y py)) spos.line X.env = pure true) (hi : PI X tg iter (liftI X.K π)) (ok : BlkOk X.N X.env.scope scope own) (hk : KeepG γ) (hw : ∀ i ∈ ws, i ∈ own.map (·.2))
    (hg : ∀ (s : Shared) (H : Hp) (C : Addr) (cl : List (Str × Addr)) (fp : List Addr), PG (X.blk s H scope (compEnvC scope cl C X.env) fp) tg (liftG X.K ws γ)) (ht : ∀ (s : Shared) (H : Hp) (C : Addr) (cl : List (Str × Addr)) (fp : List Addr), PTs (X.blk s H scope (compEnvC scope cl C X.env) fp) ifs (liftT X.K τ))
    (he : ∀ (s : Shared) (H : Hp) (C : Addr) (cl : List (Str × Addr)) (fp : List Addr), PE (X.blk s H scope (compEnvC scope cl C X.env) fp) elt (liftE X.K φ)) (hs : ∀ x, foldedSetIterable iter X.env x = pure x := by intro _; rfl) :
    PS X (.Assign [.Name y py] (.ListComp elt [⟨tg, iter, ifs, 0⟩] scope pos) spos) (liftS X.K (sSet i (eLc π (own.map (·.2)) γ τ φ))) :=
  (ps_setLc hc hN hy hyl hsw hi ok hg ht he hs).imp fun E σ H ⟨G, U, s, Δ, hs, hr, k⟩ => lc_of (ws := ws) hk hw ⟨G, U, s, _, hs, hr, fun r s1 G1 H1 v q1 e1 hs1 hv1 => by
    obtain ⟨G', s', e', hs', q⟩ := st1_ok hs1 hv1 q1
    exact k.nx s' G' H1 _ q (e1.trans e') hs'⟩
end
end DL
/-! DL9: the drawing machine of the laws as one opaque thing. -/
namespace DL
open PySem PySem.Spec PyProof.Rows L2

/-- the promise with the machine's list in sight -/
def spDeal (K : PySem.W.Frag) : Sp := fun vs H Q _ => ∃ (a c : Addr) (ns : List Int) (m p g x : Int), vs = [.ref a, .int m] ∧ 0 < m ∧ m < 1073741824 ∧ SqL K H c (ns.map V.int) ∧ ns.length ≤ 63 ∧ H a = some (.lst [.ref c, .int p, .int g, .int x]) ∧ (0 ≤ p ∧ 0 ≤ g ∧ 0 ≤ x ∧ x < 2147483647) ∧
  ∀ d p' g' x', 0 ≤ d → d < m → (0 ≤ p' ∧ 0 ≤ g' ∧ 0 ≤ x' ∧ x' < 2147483647) → Q (.int d) (upd H a (.lst [.ref c, .int p', .int g', .int x']))
/-- .. and out of sight: any digit -/
def fnDeal : FD := fun ds μ R => ∃ m : Int, ds = [.dlr, .int m] ∧ 0 < m ∧ m < 1073741824 ∧ ∀ d : Int, 0 ≤ d → d < m → R (.d (.int d)) μ
def fnDealer : FD := fun ds μ R => ∃ ns : List Int, ds = [.lst (ns.map D.int)] ∧ ns.length ≤ 63 ∧ R (.d .dlr) μ

section
variable {P : Program} {w : World} {K : PySem.W.Frag} {mg : Str → Option Value} {base : Heap} {k : Nat} {f : Addr} {fd : FuncData}
theorem dlr_stable {a c : Addr} : ∀ h1 h2 : Heap, Dlr a c h1 → (∀ o, h1.get? a = some o → h2.get? a = some o) → Dlr a c h2 := fun h1 h2 ⟨p, g, m, t1, t2, t3, n, b1, b2, b3, b4, e⟩ k => ⟨p, g, m, t1, t2, t3, n, b1, b2, b3, b4, k _ e⟩
theorem dlr_of {H : Hp} {h : Heap} {a c : Addr} {p g x : Int} (hb : 0 ≤ p ∧ 0 ≤ g ∧ 0 ≤ x ∧ x < 2147483647) (o : ObjOk P w H h a (.lst [.ref c, .int p, .int g, .int x])) : ObjOk P w H h a (.ext (Dlr a c)) := by
  obtain ⟨_, its, n, r, e⟩ := o
  cases r with
  | cons r0 r =>
    cases r with
    | cons r1 r =>
      cases r with
      | cons r2 r =>
        cases r with
        | cons r3 r =>
          cases r
          cases r0
          obtain ⟨t1, rfl⟩ := r1
          obtain ⟨t2, rfl⟩ := r2
          obtain ⟨t3, rfl⟩ := r3
          exact ⟨⟨p, g, x, t1, t2, t3, n, hb.1, hb.2.1, hb.2.2.1, hb.2.2.2, e⟩, ⟨_, e⟩, dlr_stable⟩
theorem of_dlr {H : Hp} {h : Heap} {a c : Addr} (o : ObjOk P w H h a (.ext (Dlr a c))) : ∃ p g x : Int, (0 ≤ p ∧ 0 ≤ g ∧ 0 ≤ x ∧ x < 2147483647) ∧ ∀ H', ObjOk P w H' h a (.lst [.ref c, .int p, .int g, .int x]) := by
  obtain ⟨⟨p, g, x, t1, t2, t3, n, b1, b2, b3, b4, e⟩, _, _⟩ := o
  exact ⟨p, g, x, ⟨b1, b2, b3, b4⟩, fun H' => ⟨by show 4 ≤ sizeLine; decide, _, n, .cons rfl (.cons ⟨t1, rfl⟩ (.cons ⟨t2, rfl⟩ (.cons ⟨t3, rfl⟩ .nil))), e⟩⟩
/-- another view of one object -/
theorem HOk.view {H : Hp} {h : Heap} {a : Addr} {o o' : HO} (hk : HOk P w H h) (ha : H a = some o) (no : (∀ y, o ≠ .own y) ∧ ∀ xs, o ≠ .tup xs) (h' : ObjOk P w (upd H a o') h a o') : HOk P w (upd H a o') h := fun b u e => by
  by_cases hb : b = a
  · subst hb
    rw [upd_same] at e
    cases e
    exact h'
  · rw [upd_ne hb] at e
    refine (hk b u e).stay (fun c v _ q => q) (fun c q => ?_) fun c xs q => ?_
    · rw [upd_ne]
      · exact q
      · intro z
        rw [z, ha] at q
        exact no.1 b (Option.some.inj q)
    · rw [upd_ne]
      · exact q
      · intro z
        rw [z, ha] at q
        exact no.2 xs (Option.some.inj q)
theorem upd_back {H : Hp} {a : Addr} {o o' : HO} (h : H a = some o) : upd (upd H a o') a o = H := by
  rw [upd_upd]
  funext b
  by_cases hb : b = a
  · subst hb
    rw [upd_same, h]
  · rw [upd_ne hb]
theorem deal_view (F : FnOk P w K mg base CX0 k f fd ["dealer", "many"] (spDeal K)) : FnOk P w K mg base CX0 k f fd ["dealer", "many"] (spD K 2 fnDeal) := by
  refine ⟨fun vs H Q E h => spD_len h, fun A outer s H args us vs Q E hr he hb hv hsp => ?_⟩
  obtain ⟨G, U, ds, μ, R, hbase, hd, hl, ⟨m, rfl, m0, m1, hR⟩, kont⟩ := hsp
  obtain ⟨v1, r1, rfl, ⟨a, c, ns, rfl, hGa, hc, hn⟩, v2, r2, rfl, rfl, rfl⟩ := hd
  have ha : H a = some (.ext (Dlr a c)) := hbase.sub _ _ hGa
  obtain ⟨p, g, x, hb4, hobj⟩ := of_dlr (he.hok a _ ha)
  have hca : c ≠ a ∨ ∃ o, K.lookup c = some o := by
    rcases hc with (h | ⟨o, h⟩) | ⟨o, its, n, h, _⟩
    · refine .inl fun z => ?_
      subst z
      rw [h] at hGa
      cases hGa
    · refine .inl fun z => ?_
      subst z
      rw [h] at hGa
      cases hGa
    · exact .inr ⟨o, h⟩
  have hc2 : SqL K (upd H a (.lst [.ref c, .int p, .int g, .int x])) c (ns.map V.int) := by
    have hcH := hbase.sub.seq hc
    rcases hcH with (h | ⟨o, h⟩) | h
    · refine .inl (.inl ?_)
      rw [upd_ne]
      · exact h
      · intro z
        rw [z, ha] at h
        cases h
    · refine .inl (.inr ⟨o, ?_⟩)
      rw [upd_ne]
      · exact h
      · intro z
        rw [z, ha] at h
        cases h
    · exact .inr h
  have noE : (∀ y, HO.ext (Dlr a c) ≠ .own y) ∧ ∀ xs, HO.ext (Dlr a c) ≠ .tup xs := ⟨fun y z => (by cases z), fun xs z => (by cases z)⟩
  have he2 : Env0 P w K mg base A outer s (upd H a (.lst [.ref c, .int p, .int g, .int x])) := by
    refine ⟨he.frames, he.mod, fun b o e => ⟨(he.bs b o e).1, ?_⟩, he.bsz, he.funs, fun b hb => ?_, HOk.view he.hok ha noE (hobj _), he.bare⟩
    · rw [upd_ne]
      · exact (he.bs b o e).2
      · intro z
        have := (he.bs b o e).2
        rw [z, ha] at this
        cases this
    · rw [upd_ne]
      · exact he.frf b hb
      · intro z
        have := he.frf b hb
        rw [z, ha] at this
        cases this
  refine codeAny_mono (F.run A outer s _ args us _ (fun v H' => ∃ d p' g' x', v = V.int d ∧ 0 ≤ d ∧ d < m ∧ (0 ≤ p' ∧ 0 ≤ g' ∧ 0 ≤ x' ∧ x' < 2147483647) ∧ H' = upd (upd H a (.lst [.ref c, .int p, .int g, .int x])) a (.lst [.ref c, .int p', .int g', .int x'])) E hr he2 hb hv
    ⟨a, c, ns, m, p, g, x, rfl, m0, m1, hc2, hn, upd_same, hb4, fun d p' g' x' h1 h2 h3 => ⟨d, p', g', x', rfl, h1, h2, h3, rfl⟩⟩) fun r s' hq => ?_
  cases r with
  | error e => exact hq
  | ok fl =>
    cases fl with
    | next => exact hq
    | brk => exact hq
    | cont => exact hq
    | ret u =>
      obtain ⟨v, H', os, bare, un, hok, rv, d, p', g', x', rfl, d0, d1, b4, rfl⟩ := hq
      refine ⟨.int d, H, os, bare, ⟨fun b o e n hb hx => ?_, fun b o e n hb hx => ?_, fun _ _ _ n _ => n, fun b o e hx => un.there b o e hx, fun _ _ q => q, fun _ _ _ q => q, fun b ps q => ⟨#[], by rw [q]; simp⟩⟩, ?_, rv, ?_⟩
      · exact un.keep b o e (by rw [upd_ne (fun z => by rw [z, ha] at n; cases n)]; exact n) hb hx
      · exact un.slot b o e (by rw [upd_ne (fun z => by rw [z, ha] at n; cases n)]; exact n) hb hx
      · have hok2 := HOk.view (o' := .ext (Dlr a c)) hok upd_same ⟨fun y z => (by cases z), fun xs z => (by cases z)⟩ (dlr_of b4 (by
          obtain ⟨z, its, n, r, e⟩ := hok a _ upd_same
          exact ⟨z, its, n, r, e⟩))
        rw [upd_upd, upd_back ha] at hok2
        exact hok2
      · exact kont _ _ μ G H (hR d d0 d1) (Same.refl _) hbase rfl
theorem dealer_view {n : Nat} {ps : List Str} {F0 : FD} (F : FnOk P w K mg base CX0 k f fd ps (spD K 1 F0))
    (h0 : ∀ (ns : List Int) (μ : Mu), ns.length ≤ 63 → F0 [.lst (ns.map D.int)] μ fun r μ' => μ' = μ ∧ ∃ ms : List Int, ms.length ≤ 63 ∧ r = .l [.lst (ms.map D.int), .int 0, .int 0, .int 97]) : FnOk P w K mg base CX0 k f fd ps (spD K 1 fnDealer) := by
  refine ⟨fun vs H Q E h => ?_, fun A outer s H args us vs Q E hr he hb hv hsp => ?_⟩
  · obtain ⟨G, U, ds, μ, R, hbase, hd, hl, ⟨ns, rfl, hn, hR⟩, kont⟩ := h
    exact F.len vs H (fun _ _ => True) E ⟨G, U, _, μ, _, hbase, hd, hl, h0 ns μ hn, fun _ _ _ _ _ _ _ _ _ => trivial⟩
  obtain ⟨G, U, ds, μ, R, hbase, hd, hl, ⟨ns, rfl, hn, hR⟩, kont⟩ := hsp
  refine codeAny_mono (F.run A outer s H args us vs (fun v H' => ∃ G' q c, ∃ ms : List Int, Same G G' ∧ Base K G' U H' μ ∧ v = V.ref q ∧ G' q = none ∧ U q = none ∧ μ q = none ∧ H' q = some (.lst [.ref c, .int 0, .int 0, .int 97]) ∧ SqL K G' c (ms.map V.int) ∧ ms.length ≤ 63) E hr he hb hv
    ⟨G, U, _, μ, _, hbase, hd, hl, h0 ns μ hn, fun r v μ' G' H' hr' e b hv' => ?_⟩) fun r s' hq => ?_
  · obtain ⟨rfl, ms, hm, rfl⟩ := hr'
    obtain ⟨q, rfl, g1, g2, g3, xs, hx, v1, r1, rfl, ⟨c, ys, rfl, hc, hys⟩, v2, r2, rfl, rfl, v3, r3, rfl, rfl, v4, r4, rfl, rfl, rfl⟩ := hv'
    have := DVs.ints hys
    subst this
    exact ⟨G', q, c, ms, e, b, rfl, g1, g2, g3, hx, hc, hm⟩
  · cases r with
    | error e => exact hq
    | ok fl =>
      cases fl with
      | next => exact hq
      | brk => exact hq
      | cont => exact hq
      | ret u =>
        obtain ⟨v, H', os, bare, un, hok, rv, G', q, c, ms, e, b, rfl, g1, g2, g3, hx, hc, hm⟩ := hq
        have nq : ∀ {F : Hp} {b : Addr} {o : HO}, F b = some o → F q = none → b ≠ q := fun {F b o} e n z => by rw [z, n] at e; cases e
        have lst : ∀ z, H' q = some z → z = .lst [.ref c, .int 0, .int 0, .int 97] := fun z hz => by rw [hx] at hz; exact (Option.some.inj hz).symm
        refine ⟨.ref q, upd H' q (.ext (Dlr q c)), os, bare, ⟨un.keep, un.slot, fun b o e n hx' => ?_, un.there, fun b xs e => ?_, fun b o u e => ?_, fun b ps e => ?_⟩, HOk.view hok hx ⟨fun y z => (by cases z), fun xs z => (by cases z)⟩ ?_, rv, ?_⟩
        · have := un.free b o e n hx'
          rw [upd_ne]
          · exact this
          · intro z
            rw [z, hx] at this
            cases this
        · have := un.tups b xs e
          rw [upd_ne]
          · exact this
          · intro z
            rw [z] at this
            cases lst _ this
        · have := un.frzs b o u e
          rw [upd_ne]
          · exact this
          · intro z
            rw [z] at this
            cases lst _ this
        · obtain ⟨more, this⟩ := un.tbls b ps e
          refine ⟨more, ?_⟩
          rw [upd_ne]
          · exact this
          · intro z
            rw [z] at this
            cases lst _ this
        · exact dlr_of (p := 0) (g := 0) (x := 97) ⟨by decide, by decide, by decide, by decide⟩ (by
            obtain ⟨z, its, n, r, e⟩ := hok q _ hx
            exact ⟨z, its, n, r, e⟩)
        · have sG : Same G' (upd G' q (.ext (Dlr q c))) := same_new g1
          refine kont _ _ μ (upd G' q (.ext (Dlr q c))) _ hR (e.trans sG) ⟨fun b o e => ?_, fun b o e => ?_, fun b o e => ?_, fun b o e => ?_⟩ ⟨q, c, ms, rfl, upd_same, sG.seq hc, hm⟩
          · by_cases hb : b = q
            · subst hb
              rw [upd_same] at e ⊢
              exact e
            · rw [upd_ne hb] at e ⊢
              exact ‹Base K G' U H' μ›.sub b o e
          · rw [upd_ne (nq e g2)]
            exact ‹Base K G' U H' μ›.usub b o e
          · rw [upd_ne (nq e g2)]
            exact ‹Base K G' U H' μ›.ug b o e
          · have hb : b ≠ q := fun z => by rw [z, g3] at e; cases e
            obtain ⟨z1, z2⟩ := ‹Base K G' U H' μ›.mu b o e
            exact ⟨by rw [upd_ne hb]; exact z1, z2.mono sG (by rw [upd_ne hb])⟩
/-- a promise of nothing -/
theorem fn_false {f : Addr} {fd : FuncData} {ps : List Str} {n : Nat} : FnOk P w K mg base CX0 k f fd ps (spD K n fun _ _ _ => False) :=
  ⟨fun vs H Q E ⟨_, _, _, _, _, _, _, _, h, _⟩ => h.elim, fun A outer s H args us vs Q E hr he hb hv ⟨_, _, _, _, _, _, _, _, h, _⟩ => h.elim⟩
end
end DL
/-! DL10: chained comparisons, is True, keyword calls, defs with defaults, more built-ins. -/
namespace DL
open PySem PySem.Spec PyProof.Rows L2

section
variable {X : Cx} {e1 e2 e3 : Expr} {φ1 φ2 φ3 : PhiE} {pos : Pos}
/-- a op1 b op2 c -/
def eChain (o1 o2 : O2) (φ1 φ2 φ3 : PhiE) : PhiE := fun s R => φ1 s fun r1 s1 => φ2 s1 fun r2 s2 => lk r1 s2 fun x => lk r2 s2 fun y => o1 x y fun z => match z with
  | .d (.bl k) => if k = true then φ3 s2 fun r3 s3 => lk r2 s3 fun y' => lk r3 s3 fun w => o2 y' w fun r => R r s3 else R (.d (.bl false)) s2
  | _ => False
theorem chain_of {r r' : R2} {o1 o2 : O2} (h1 : OpS X.K r o1) (h2 : OpS X.K r' o2) {σ : L2.St} {H : Hp} {Q : VK} (q : liftE X.K (eChain o1 o2 φ1 φ2 φ3) σ H Q) : tChain r r' (liftE X.K φ1) (liftE X.K φ2) (liftE X.K φ3) σ H Q := by
  obtain ⟨G, U, s, R, hs, hr, k⟩ := q
  refine ⟨G, U, s, _, hs, hr, fun r1 s1 G1 H1 v1 q1 e1 hs1 hv1 => ?_⟩
  obtain ⟨G1', e1', hs1', p1⟩ := pin_ok hs1 hv1
  refine ⟨G1', U, s1, _, hs1', q1, fun r2 s2 G2 H2 v2 q2 e2 hs2 hv2 => ?_⟩
  obtain ⟨G2', e2', hs2', p2⟩ := pin_ok hs2 hv2
  rw [← pin_lk] at q2
  obtain ⟨x, lx, q2⟩ := lk_ok hs2' (Pn.mono (e2.trans e2') p1) q2
  rw [← pin_lk] at q2
  obtain ⟨y, ly, q2⟩ := lk_ok hs2' p2 q2
  refine h1 G2' _ H2 s2.μ v1 v2 x y (fun z => match z with
    | .d (.bl k) => if k = true then φ3 s2 fun r3 s3 => lk r2 s3 fun y' => lk r3 s3 fun w => o2 y' w fun r => R r s3 else R (.d (.bl false)) s2
    | _ => False) _ hs2'.out lx ly q2 ?_
  have e0 := (((e1.trans e1').trans e2).trans e2')
  refine con_ok (R := fun z s2 => match z with
    | .d (.bl k) => if k = true then φ3 s2 fun r3 s3 => lk r2 s3 fun y' => lk r3 s3 fun w => o2 y' w fun r => R r s3 else R (.d (.bl false)) s2
    | _ => False) hs2' (Same.refl _) fun z s3 G3 H3 v3 q3 e3 hs3 hv3 => ?_
  cases z with
  | d d =>
    cases d with
    | bl c =>
      refine ⟨c, hv3, ?_⟩
      cases c with
      | true =>
        refine (if_pos rfl).mpr ⟨G3, U, s3, _, hs3, q3, fun r4 s4 G4 H4 v4 q4 e4 hs4 hv4 => ?_⟩
        obtain ⟨G4', e4', hs4', p4⟩ := pin_ok hs4 hv4
        rw [← pin_lk] at q4
        obtain ⟨y', ly', q4⟩ := lk_ok hs4' (Pn.mono ((e3.trans e4).trans e4') p2) q4
        rw [← pin_lk] at q4
        obtain ⟨w, lw, q4⟩ := lk_ok hs4' p4 q4
        exact h2 G4' _ H4 s4.μ v2 v4 y' w _ Q hs4'.out ly' lw q4 (con_ok hs4' (e0.trans ((e3.trans e4).trans e4')) k)
      | false => exact k _ s3 G3 H3 _ q3 (e0.trans e3) hs3 rfl
    | _ => exact q3.elim
  | _ => exact q3.elim
theorem de_chain {op op' : CmpOp} {r r' : R2} {o1 o2 : O2} (ho : OpR X (compareOp op) r) (ho' : OpR X (compareOp op') r') (h1 : OpS X.K r o1) (h2 : OpS X.K r' o2) (ha : PE X e1 (liftE X.K φ1)) (hb : PE X e2 (liftE X.K φ2)) (hc : PE X e3 (liftE X.K φ3))
    (hm : lastMarks [op, op'] [e2, e3] = false := by with_unfolding_all rfl) : PE X (.Compare e1 [op, op'] [e2, e3] pos) (liftE X.K (eChain o1 o2 φ1 φ2 φ3)) :=
  (pe_chain ho ho' ha hb hc hm).imp fun _ _ _ q => chain_of h1 h2 q
theorem dt_chain {op op' : CmpOp} {r r' : R2} {o1 o2 : O2} (ho : OpR X (compareOp op) r) (ho' : OpR X (compareOp op') r') (h1 : OpS X.K r o1) (h2 : OpS X.K r' o2) (ha : PE X e1 (liftE X.K φ1)) (hb : PE X e2 (liftE X.K φ2)) (hc : PE X e3 (liftE X.K φ3))
    (hm : lastMarks [op, op'] [e2, e3] = false := by with_unfolding_all rfl) : PT X (.Compare e1 [op, op'] [e2, e3] pos) (liftT X.K (tB (eChain o1 o2 φ1 φ2 φ3))) :=
  (pt_chain ho ho' ha hb hc hm).imp fun σ H Q q => chain_of h1 h2 (tB_of (φ := eChain o1 o2 φ1 φ2 φ3) q)
end

/-! ### is True, is False -/
def rIsBA (f : Bool → Bool) : R2 := fun x y H Q => ∃ b : Bool, y = .bl b ∧ Q (.bl (f (decide (x = .bl b)))) H
section
variable {X : Cx} {K : PySem.W.Frag}
theorem op_isbA : OpR X (compareOp .Is) (rIsBA fun b => b) := by
  intro pins s σ H x y v u Q I rx ry h
  obtain ⟨b, rfl, q⟩ := h
  cases (show u = Value.bool b from ry)
  by_cases e : x = .bl b
  · subst e
    cases (show v = Value.bool b from rx)
    exact wpAny_is_self rfl ⟨.bl true, H, I, rfl, by simpa using q⟩
  · have hne : v ≠ Value.bool b := fun z => by
      subst z
      cases x with
      | bl c =>
        have : Value.bool b = Value.bool c := rx
        cases this
        exact e rfl
      | non => cases (show Value.bool b = Value.none from rx)
      | int i => obtain ⟨t, z⟩ := rx; cases z
      | str i => obtain ⟨t, z⟩ := rx; cases z
      | byt i => obtain ⟨t, z⟩ := rx; cases z
      | flt i => obtain ⟨t, z⟩ := rx; cases z
      | ref a => cases (show Value.bool b = Value.ref a from rx)
      | ty n => cases (show Value.bool b = Value.type n from rx)
    refine wpAny_is_other ?_ hne ⟨.bl false, H, I, rfl, by simpa [e] using q⟩
    cases v <;> first
      | rfl
      | (exfalso
         cases x <;> first
           | (cases rx; done)
           | (obtain ⟨t, z⟩ := rx; cases z))
def oIsB (f : Bool → Bool) : O2 := fun x y R => match y with
  | .bl b => (∃ n, x = .non ∧ n = true ∧ R (.d (.bl (f false)))) ∨ (∃ c, x = .bl c ∧ R (.d (.bl (f (decide (c = b)))))) ∨ (∃ i, x = .int i ∧ R (.d (.bl (f false)))) ∨ ∃ z, x = .str z ∧ R (.d (.bl (f false)))
  | _ => False
theorem os_isbA {f : Bool → Bool} : OpS K (rIsBA f) (oIsB f) := fun G U H μ x y dx dy R Q b lx ly h k => by
  cases dy with
  | bl c =>
    cases ly.bl
    rcases h with ⟨n, rfl, _, h⟩ | ⟨e, rfl, h⟩ | ⟨i, rfl, h⟩ | ⟨i, rfl, h⟩
    · cases lx.non
      exact ⟨c, rfl, k.bl b (by simpa using h)⟩
    · cases lx.bl
      exact ⟨c, rfl, k.bl b (by simpa using h)⟩
    · cases lx.int
      exact ⟨c, rfl, k.bl b (by simpa using h)⟩
    · cases lx.str
      exact ⟨c, rfl, k.bl b (by simpa using h)⟩
  | _ => exact h.elim

/-! ### -a, gcd, max, min, all, sum -/
def oNeg : O1 := fun x R => match x with
  | .int i => R (.d (.int (-i)))
  | _ => False
theorem us_neg : UnS K (rU fun i => .int (-i)) oNeg := fun G U H μ x d R Q b l h k => by
  cases d with
  | int i => cases l.int; exact ⟨i, rfl, k.int b h⟩
  | _ => exact h.elim
def oII (g : Int → Int → Int) : OA := fun ds R => match ds with
  | [.int a, .int b] => R (.d (.int (g a b)))
  | _ => False
def gcdI (a b : Int) : Int := (Nat.gcd a.natAbs b.natAbs : Nat)
def max2I (i j : Int) : Int := if j > i then j else i
def min2I (i j : Int) : Int := if j < i then j else i
theorem oII_of {g : Int → Int → Int} {ds : List D} {xs : List V} {G : Hp} {R : Sl → Prop} (hd : DVs K G ds xs) (h : oII g ds R) : ∃ a b, xs = [.int a, .int b] ∧ R (.d (.int (g a b))) := by
  unfold oII at h
  split at h
  · exact ⟨_, _, hd.int2, h⟩
  · exact h.elim
theorem cs_gcd : CallS K rGcd (oII gcdI) := fun G U H μ xs ds R Q b hd h k => by
  obtain ⟨i, j, rfl, h⟩ := oII_of hd h
  exact ⟨i, j, rfl, k.int b h⟩
theorem cs_max2 : CallS K (fun xs H Q => ∃ i j, xs = [.int i, .int j] ∧ Q (.int (if j > i then j else i)) H) (oII max2I) := fun G U H μ xs ds R Q b hd h k => by
  obtain ⟨i, j, rfl, h⟩ := oII_of hd h
  exact ⟨i, j, rfl, k.int b h⟩
theorem cs_min2 : CallS K (fun xs H Q => ∃ i j, xs = [.int i, .int j] ∧ Q (.int (if j < i then j else i)) H) (oII min2I) := fun G U H μ xs ds R Q b hd h k => by
  obtain ⟨i, j, rfl, h⟩ := oII_of hd h
  exact ⟨i, j, rfl, k.int b h⟩
def asInts : List D → Option (List Int)
  | [] => some []
  | .int i :: r => (asInts r).map (i :: ·)
  | _ => none
theorem asInts_ok : ∀ {ds : List D} {ns : List Int}, asInts ds = some ns → ds = ns.map D.int
  | [], ns, h => by cases h; rfl
  | d :: r, ns, h => by
    cases d with
    | int i =>
      have h : (asInts r).map (i :: ·) = some ns := h
      cases e : asInts r with
      | none => rw [e] at h; cases h
      | some ms => rw [e] at h; cases h; rw [asInts_ok e]; rfl
    | _ => cases h
def asBls : List D → Option (List Bool)
  | [] => some []
  | .bl i :: r => (asBls r).map (i :: ·)
  | _ => none
theorem asBls_ok : ∀ {ds : List D} {ns : List Bool}, asBls ds = some ns → ds = ns.map D.bl
  | [], ns, h => by cases h; rfl
  | d :: r, ns, h => by
    cases d with
    | bl i =>
      have h : (asBls r).map (i :: ·) = some ns := h
      cases e : asBls r with
      | none => rw [e] at h; cases h
      | some ms => rw [e] at h; cases h; rw [asBls_ok e]; rfl
    | _ => cases h
theorem DVs.bls {G : Hp} : ∀ {ns : List Bool} {vs : List V}, DVs K G (ns.map D.bl) vs → vs = ns.map V.bl
  | [], _, h => h
  | n :: ns, _, ⟨x, r, h1, h2, h3⟩ => by
    have h2 : x = .bl n := h2
    have := DVs.bls h3
    rw [h1, h2, this]
    rfl
def oAll : O1 := fun x R => match x with
  | .lst ds => match asBls ds with
    | some bs => R (.d (.bl (bs.all id)))
    | none => False
  | _ => False
theorem cs_all : Call1S K (rAll K) oAll := fun G U H μ x d R Q b l h k => by
  cases d with
  | lst ds =>
    obtain ⟨a, xs, rfl, h1, h2⟩ := l.lst b
    unfold oAll at h
    simp only at h
    cases e : asBls ds with
    | none => rw [e] at h; exact h.elim
    | some bs =>
      rw [e] at h
      rw [asBls_ok e] at h2
      rw [h2.bls] at h1
      exact ⟨a, bs, rfl, h1, k.bl b h⟩
  | _ => exact h.elim
def oInts (f : List Int → (Int → Prop) → Prop) : O1 := fun x R => match x with
  | .lst ds => match asInts ds with
    | some bs => f bs fun i => R (.d (.int i))
    | none => False
  | _ => False
theorem oInts_of {f : List Int → (Int → Prop) → Prop} {G U H : Hp} {μ : Mu} {x : V} {d : D} {R : Sl → Prop} (b : Base K G U H μ) (l : Lk K G H d x) (h : oInts f d R) : ∃ a ns, x = .ref a ∧ SqL K H a (ns.map V.int) ∧ f ns fun i => R (.d (.int i)) := by
  cases d with
  | lst ds =>
    obtain ⟨a, xs, rfl, h1, h2⟩ := l.lst b
    unfold oInts at h
    simp only at h
    cases e : asInts ds with
    | none => rw [e] at h; exact h.elim
    | some bs =>
      rw [e] at h
      rw [asInts_ok e] at h2
      rw [h2.ints] at h1
      exact ⟨a, bs, rfl, h1, h⟩
  | _ => exact h.elim
def oSum : O1 := oInts fun ns R => R ns.sum
def oMaxL : O1 := oInts fun ns R => 0 < ns.length ∧ ∀ m, m ∈ ns → (∀ y, y ∈ ns → y ≤ m) → R m
def oMinL : O1 := oInts fun ns R => 0 < ns.length ∧ ∀ m, m ∈ ns → (∀ y, y ∈ ns → m ≤ y) → R m
theorem cs_sum : Call1S K (rSum K) oSum := fun G U H μ x d R Q b l h k => by
  obtain ⟨a, ns, rfl, h1, h2⟩ := oInts_of b l h
  exact ⟨a, ns, rfl, h1, k.int b h2⟩
theorem cs_maxL : Call1S K (rMax K) oMaxL := fun G U H μ x d R Q b l h k => by
  obtain ⟨a, ns, rfl, h1, h2, h3⟩ := oInts_of b l h
  exact ⟨a, ns, rfl, h1, h2, fun m p q => k.int b (h3 m p q)⟩
theorem cs_minL : Call1S K (rMin K) oMinL := fun G U H μ x d R Q b l h k => by
  obtain ⟨a, ns, rfl, h1, h2, h3⟩ := oInts_of b l h
  exact ⟨a, ns, rfl, h1, h2, fun m p q => k.int b (h3 m p q)⟩
/-- a module's name for a built-in function -/
theorem de_cbf {x : Str} {p pos : Pos} {e : Expr} {es : List Expr} {ψ : PhiA} {id : String} {r : List V → Hp → VK → Prop} {o : OA} (hc : CallR X (.builtin id) r) (ho : CallS X.K r o) (hg : Gl X x) (hm : X.mg x = some (.builtin id)) (ha : PA X (e :: es) (liftA X.K ψ)) (hdb : (x == ("__debug__" : Str)) = false := by decide)
    (he : starEach (e :: es) X.env = (false, eval e X.env) :: starEach es X.env := by rfl) (hpl : (backTo pos (starEach es X.env)).any (·.1) = false := by rfl) : PE X (.Call (.Name x p) (e :: es) [] pos) (liftE X.K (eCB o ψ)) :=
  (pe_callBfun hc hg hm ha hdb he hpl).imp fun σ H Q q => cb_of ho q
end

/-! ### defs with defaults -/
section
variable {P : Program} {w : World} {K : PySem.W.Frag} {mg : Str → Option Value} {base : Heap}
theorem fn_okD {x qual : Str} {st : Stmt} {f : Addr} {fd : FuncData} {N ps : List Str} {k : Nat} {Φ : PhiS} {dvs : List V} (F : FunD K x qual (defArgs st) (defBody st) (defScope st) dvs [] f fd) (S : FnScope N ps (defScope st))
    (hbody : ∀ (cdv : Value) (A : Around) (outer : List Env) (s : Shared) (H : Hp), Room k (A.deeper (envOfC qual (defScope st) s.heap.objs.size f cdv)) →
      PSs (cxOf CX0 P w K mg base N qual (defScope st) f cdv A outer s H E0).nox (defBody st) (liftS K Φ)) : FnOk P w K mg base CX0 (k + 1) f fd ps (spD K ps.length (body N.length Φ)) := by
  refine F.ok S (fun vs H Q E h => spD_len h) fun cdv A outer s H vs Q E hr hsp => ⟨_, (hbody cdv A outer s H hr).nox, ?_⟩
  obtain ⟨G, U, ds, μ, R, hb, hd, hl, hF, k⟩ := hsp
  have hle : ps.length ≤ N.length := by
    have := S.pre
    have := congrArg List.length this
    rw [List.length_take] at this
    omega
  refine ⟨G, U, _, _, start_st hb hd (by omega), hF, ⟨fun s' G' H' σ' q e hs' => k _ _ _ G' H' q e hs'.base rfl, fun s' G' H' σ' q => False.elim q, fun s' G' H' σ' q => False.elim q, fun r μ' G' H' v q e b hv => k r v μ' G' H' q e b hv⟩⟩
end

section
variable {K : PySem.W.Frag} {x qual : Str} {st : Stmt} {f : Addr} {fd : FuncData} {ps : List Str} {dvs : List V}
theorem _root_.L2.FunD.bindsW {params : Arguments} {bd : List Stmt} {scope : Scope} (F : FunD K x qual params bd scope dvs [] f fd) (n j : Nat) (hd : dvs ≠ []) (hn : n + (dvs.length - j) = ps.length)
    (h : ∀ (T : Addr) (kV doc pm : Value) (an : Option Addr) (cdv ct : Value) (us its : List Value), us.length = n → its.length = dvs.length →
      ∃ k, bindArgs (PySem.W.fnOf x qual params bd scope (.ref T) kV doc pm an cdv ct) ⟨us, []⟩ = seqItems? (.ref T) >>= k ∧ k (some its.toArray) = pure (ps.zip (us ++ its.drop j))) (hj : dvs.drop j = [] := by rfl) : Binds K fd ps [] := by
  obtain ⟨ds, h1, h2⟩ := F.binds1 n j hd hn h
  rw [hj] at h1
  cases h1
  exact h2
end
/-! ### f(k = v, ..) -/
section
variable {X : Cx} {k : Nat} {f : Addr} {fd : FuncData} {ps ks : List Str} {F : FD} {x : Str} {p pos kpos : Pos} {e : Expr} {kws : List Keyword} {φ : PhiE} {ψ : PhiA} {nm : Option Str}
theorem dk_nil : PK X [] (liftA X.K aNil) := ⟨fun pos pins s σ H Q I ⟨G, U, s', R, hs, hr, k⟩ => pk_nil.run pos pins s σ H Q I (k [] s' G H [] hr (Same.refl _) hs rfl)⟩
theorem dk_cons (h : PE X e (liftE X.K φ)) (hr : PK X kws (liftA X.K ψ)) : PK X (⟨nm, e, kpos⟩ :: kws) (liftA X.K (aCons φ ψ)) :=
  ⟨fun pos pins s σ H Q I ⟨G, U, s', R, hs, hr', k⟩ => (pk_cons h hr).run pos pins s σ H Q I ⟨G, U, s', _, hs, hr', fun r1 s1 G1 H1 v1 q1 e1 hs1 hv1 => by
    obtain ⟨G1', e1', hs1', d1⟩ := frz_ok hs1 hv1
    exact ⟨G1', U, _, _, hs1', q1, fun ds s2 G2 H2 vs q2 e2 hs2 dvs => k _ s2 G2 H2 _ q2 ((e1.trans e1').trans e2) hs2 ⟨v1, vs, rfl, d1.mono e2, dvs⟩⟩⟩⟩
/-- the keywords' values in the parameters' order -/
structure KB (K : PySem.W.Frag) (fd : FuncData) (ps ks : List Str) (gD : List D → List D) : Prop where
  ex : ∃ g gV, KBinds K fd ps ks g gV ∧ ∀ G ds vs, DVs K G ds vs → DVs K G (gD ds) (gV [] vs)
def eCallK (F : FD) (gD : List D → List D) (ψ : PhiA) : PhiE := fun s R => ψ s fun ds s1 => (F (gD ds) s1.μ fun r μ' => R r ⟨s1.ρ, μ'⟩)
theorem de_callK {n : Nat} {gD : List D → List D} (Fk : FnOk X.prog X.w X.K X.mg X.base CX0 k f fd ps (spD X.K n F)) (hr : Room k X.A) (hg : Gl X x) (hm : X.mg x = some (.ref f)) (hk : PySem.W.keepIn X.K (.ref f) = true) (hb : KB X.K fd ps ks gD)
    (hkw : PK X kws (liftA X.K ψ)) (hall : (backToKw pos (keywordEach kws X.env)).all (·.1.isSome) = true := by rfl) (hks : (backToKw pos (keywordEach kws X.env)).filterMap (·.1) = ks := by rfl)
    (hdb : (x == ("__debug__" : Str)) = false := by decide)
    (hpl : ((backTo pos (starEach [] X.env)).any (·.1) || (backToKw pos (keywordEach kws X.env)).any (·.1.isNone)) = false := by rfl) :
    PE X (.Call (.Name x p) [] kws pos) (liftE X.K (eCallK (fdn n F) gD ψ)) := by
  obtain ⟨g, gV, hb, hg'⟩ := hb.ex
  refine ⟨fun pins s σ H Q I ⟨G, U, s0, R, hs, hR, kk⟩ => ?_⟩
  refine wpAny_Call_Name_kw (ld_glob I hg hm ?_ hdb)
  refine PySem.W.callWith_KW0 (h₀ := X.base) I.ok.mod.kin hk hall (thn (hkw.run pos pins s σ H (fun zs H2 => spD X.K n F (gV [] zs) H2 Q E0) I ⟨G, U, s0, _, hs, hR, fun ds s1 G1 H1 vs q1 e1 hs1 dv => ?_⟩) fun ws s2 ⟨zs, H2, I2, rz, q2⟩ => ⟨I2.kIn, ?_⟩) hpl
  · exact ⟨G1, _, gD ds, s1.μ, _, hs1.out, hg' G1 ds vs dv, q1.1, q1.2, fun r v μ' G' H' q e b hv' => kk r _ G' H' v q (e1.trans e) (hs1.back e b) (hv'.rs (ρ := s1.ρ) hs1)⟩
  · rw [hks]
    exact run_fnk (us := []) (vs := []) Fk hr hb pass0 I2 .nil rz q2
variable {K : PySem.W.Frag}
/-- two keywords in the parameters' order, and turned -/
theorem KB.two {k1 k2 : Str} (h : ∀ a b, bindArgs fd ⟨[], [(k1, a), (k2, b)]⟩ = pure [(k1, a), (k2, b)]) : KB K fd [k1, k2] [k1, k2] fun l => match l with | [a, b] => [a, b] | _ => [] := by
  refine ⟨fun us ws => match us, ws with | [], [a, b] => [a, b] | _, _ => [], fun us ws => match us, ws with | [], [a, b] => [a, b] | _, _ => [], ⟨fun s us ws _ hl => ?_, fun r1 r2 => ?_⟩, fun G ds vs hd => ?_⟩
  · match us, ws, hl with
    | [], [a, b], _ => exact .of_eq (h a b)
    | [], [], hl => cases hl
    | [], [_], hl => cases hl
    | [], _ :: _ :: _ :: _, hl => cases hl
    | _ :: _, _, hl => cases hl
  · match r1, r2 with
    | .nil, .nil => exact .nil
    | .nil, .cons _ .nil => exact .nil
    | .nil, .cons a (.cons b .nil) => exact .cons a (.cons b .nil)
    | .nil, .cons _ (.cons _ (.cons _ _)) => exact .nil
    | .cons _ _, _ => exact .nil
  · match ds, hd with
    | [], hd => cases (show vs = [] from hd); exact rfl
    | [_], ⟨x, r, e, _, e2⟩ => cases (show r = [] from e2); cases e; exact rfl
    | [_, _], ⟨x, r, e, h1, x2, r2, e2, h2, e3⟩ => cases (show r2 = [] from e3); cases e2; cases e; exact ⟨x, _, rfl, h1, x2, _, rfl, h2, rfl⟩
    | _ :: _ :: _ :: _, ⟨x, r, e, h1, x2, r2, e2, h2, x3, r3, e3, _⟩ => cases e3; cases e2; cases e; exact rfl
theorem KB.turn {k1 k2 : Str} (h : ∀ a b, bindArgs fd ⟨[], [(k2, a), (k1, b)]⟩ = pure [(k1, b), (k2, a)]) : KB K fd [k1, k2] [k2, k1] fun l => match l with | [a, b] => [b, a] | _ => [] := by
  refine ⟨fun us ws => match us, ws with | [], [a, b] => [b, a] | _, _ => [], fun us ws => match us, ws with | [], [a, b] => [b, a] | _, _ => [], ⟨fun s us ws _ hl => ?_, fun r1 r2 => ?_⟩, fun G ds vs hd => ?_⟩
  · match us, ws, hl with
    | [], [a, b], _ => exact .of_eq (h a b)
    | [], [], hl => cases hl
    | [], [_], hl => cases hl
    | [], _ :: _ :: _ :: _, hl => cases hl
    | _ :: _, _, hl => cases hl
  · match r1, r2 with
    | .nil, .nil => exact .nil
    | .nil, .cons _ .nil => exact .nil
    | .nil, .cons a (.cons b .nil) => exact .cons b (.cons a .nil)
    | .nil, .cons _ (.cons _ (.cons _ _)) => exact .nil
    | .cons _ _, _ => exact .nil
  · match ds, hd with
    | [], hd => cases (show vs = [] from hd); exact rfl
    | [_], ⟨x, r, e, _, e2⟩ => cases (show r = [] from e2); cases e; exact rfl
    | [_, _], ⟨x, r, e, h1, x2, r2, e2, h2, e3⟩ => cases (show r2 = [] from e3); cases e2; cases e; exact ⟨x2, _, rfl, h2, x, _, rfl, h1, rfl⟩
    | _ :: _ :: _ :: _, ⟨x, r, e, h1, x2, r2, e2, h2, x3, r3, e3, _⟩ => cases e3; cases e2; cases e; exact rfl
theorem _root_.L2.Fun.kb2 {x qual : Str} {st : Stmt} {f : Addr} {fd : FuncData} {k1 k2 : Str} (F : Fun K x qual st f fd)
    (h : ∀ (kV doc pm : Value) (an : Option Addr) (cdv ct a b : Value), bindArgs (PySem.W.fnOf x qual (defArgs st) (defBody st) (defScope st) .none kV doc pm an cdv ct) ⟨[], [(k1, a), (k2, b)]⟩ = pure [(k1, a), (k2, b)]) : KB K fd [k1, k2] [k1, k2] fun l => match l with | [a, b] => [a, b] | _ => [] := by
  obtain ⟨oc, od, kV, doc, pm, an, cdv, ct, osl, rfl, lk, hcd⟩ := F.ex
  exact KB.two (h kV doc pm an cdv ct)
theorem _root_.L2.Fun.kbt {x qual : Str} {st : Stmt} {f : Addr} {fd : FuncData} {k1 k2 : Str} (F : Fun K x qual st f fd)
    (h : ∀ (kV doc pm : Value) (an : Option Addr) (cdv ct a b : Value), bindArgs (PySem.W.fnOf x qual (defArgs st) (defBody st) (defScope st) .none kV doc pm an cdv ct) ⟨[], [(k2, a), (k1, b)]⟩ = pure [(k1, b), (k2, a)]) : KB K fd [k1, k2] [k2, k1] fun l => match l with | [a, b] => [b, a] | _ => [] := by
  obtain ⟨oc, od, kV, doc, pm, an, cdv, ct, osl, rfl, lk, hcd⟩ := F.ex
  exact KB.turn (h kV doc pm an cdv ct)
end
end DL
/-! DL11: the drawing machine's step, read once. -/
namespace DL
open PySem PySem.Spec PyProof.Rows L2

abbrev tIxD (K : PySem.W.Frag) (i : Int) : TE := tOp (rIx K) (tVar 0) (tC (.int i))
abbrev tI1 (t : TE) : TE := tCB (fun xs H Q => (∃ i, xs = [V.int i] ∧ Q (V.int i) H) ∨ ∃ k, xs = [V.bl k] ∧ Q (V.int (if k then 1 else 0)) H) (tCons t tNil)
abbrev gD (i : Int) : TG := gSub (tVar 0) (tC (.int i)) rSetL
abbrev rAddI : R2 := rI0 fun i j => .int (i + j)
abbrev rMulI : R2 := rI CMul fun i j => .int (i * j)
abbrev rModI : R2 := rI (fun _ j => 0 < j) fun i j => .int (i % j)
abbrev rDivI : R2 := rI CDiv fun i j => .int (i / j)
def tFirst (K : PySem.W.Frag) : TS :=
    tSeq (tAsg (tOp (rIx K) (tIxD K 0) (tIxD K 1)) (gName 2))
      (tSeq (tAsg (tOp rAddI (tIxD K 1) (tC (.int 1))) (gD 1))
        (tIfS (tTest (tOp (rI0 fun i j => .bl (decide (j ≤ i))) (tVar 2) (tOp (rI CPow fun i j => .int (i ^ j.toNat)) (tC (.int 10)) (tC (.int 18)))))
          (tAsg (tVar 2) (gD 2))
          (tAsg (tOp rModI (tI1 (tOp rAddI (tOp rAddI (tOp rMulI (tIxD K 3) (tC (.int 69621))) (tOp rMulI (tVar 2) (tC (.int 48271)))) (tC (.int 7)))) (tC (.int 2147483647))) (gD 3))))
def tTail (K : PySem.W.Frag) : TS :=
  tSeq (tIfS (tTest (tOp (rI0 fun i j => .bl (decide (j < i))) (tIxD K 2) (tC (.int 0))))
    (tSeq (tAsg (tOp rModI (tI1 (tIxD K 2)) (tVar 1)) (gName 3))
      (tSeq (tAsg (tOp rDivI (tIxD K 2) (tVar 1)) (gD 2)) (tRet (tVar 3))))
    tNext)
  (tSeq (tAsg (tOp rModI (tI1 (tOp rAddI (tOp rMulI (tIxD K 3) (tC (.int 48271))) (tC (.int 211)))) (tC (.int 2147483647))) (gD 3))
    (tRet (tOp rModI (tI1 (tOp rDivI (tOp rModI (tI1 (tOp rMulI (tIxD K 3) (tC (.int 16807)))) (tC (.int 2147483629))) (tC (.int 128)))) (tVar 1))))
abbrev tCond (K : PySem.W.Frag) : TT := L2.tAnd (tTest (tOp rEq (tIxD K 2) (tC (.int 0)))) (tTest (tOp (rI0 fun i j => .bl (decide (i < j))) (tIxD K 1) (tCB (rLenA K) (tCons (tIxD K 0) tNil))))
abbrev tDealT (K : PySem.W.Frag) : TS := tSeq (tIfS (tCond K) (tFirst K) tNext) (tTail K)

section
variable {K : PySem.W.Frag} {H : Hp} {σ : L2.St} {Q : VK} {a c : Addr}
theorem dix {xs : List V} {i : Int} {v : V} (hσ : σ[0]? = some (some (.ref a))) (h : H a = some (.lst xs)) (e : atI xs i = some v) (q : Q v H) : tIxD K i σ H Q :=
  ⟨.ref a, hσ, .inl ⟨a, xs, i, v, rfl, rfl, SqL.of h, e, q⟩⟩
theorem dset {xs : List V} {i : Int} {v : V} {j : Nat} {R : L2.St → Hp → Prop} (hσ : σ[0]? = some (some (.ref a))) (h : H a = some (.lst xs)) (e : ixN xs.length i = some j) (q : R σ (upd H a (.lst (xs.set j v)))) : gD i v σ H R :=
  ⟨.ref a, hσ, a, xs, i, j, rfl, rfl, h, e, q⟩
theorem di1 {t : TE} {R : VK} (h : t σ H fun v H' => ∃ i, v = .int i ∧ R (.int i) H') (m : ∀ P P' : VK, (∀ v H, P v H → P' v H) → t σ H P → t σ H P') : tI1 t σ H R :=
  m _ _ (fun v H' ⟨i, e, q⟩ => .inl ⟨i, by rw [e], q⟩) h
theorem sql_upd {xs : List V} {o : HO} {ys : List V} (h : SqL K H c ys) (ha : H a = some (.lst xs)) (hac : c ≠ a) : SqL K (upd H a o) c ys := by
  rcases h with (h | ⟨u, h⟩) | h
  · exact .inl (.inl (by rw [upd_ne hac]; exact h))
  · exact .inl (.inr ⟨u, by rw [upd_ne hac]; exact h⟩)
  · exact .inr h
theorem deal_tail {m p g x : Int} {σ : L2.St} {H0 : Hp} (hσ0 : σ[0]? = some (some (.ref a))) (hσ1 : σ[1]? = some (some (.int m))) (hl : 3 < σ.length) (hm : 0 < m) (hm2 : m < 1073741824) (hb : 0 ≤ p ∧ 0 ≤ g ∧ 0 ≤ x ∧ x < 2147483647)
    (hH : ∀ d p' g' x', 0 ≤ d → d < m → (0 ≤ p' ∧ 0 ≤ g' ∧ 0 ≤ x' ∧ x' < 2147483647) → Q (.int d) (upd H0 a (.lst [.ref c, .int p', .int g', .int x']))) (E : Ends) (hE : E.rt = Q) :
    tTail K E σ (upd H0 a (.lst [.ref c, .int p, .int g, .int x])) := by
  subst hE
  unfold tTail
  obtain ⟨b1, b2, b3, b4⟩ := hb
  have h0 : (upd H0 a (.lst [.ref c, .int p, .int g, .int x])) a = some (.lst [.ref c, .int p, .int g, .int x]) := upd_same
  refine dix hσ0 h0 (show _ = some (.int g) from rfl) ⟨g, 0, rfl, rfl, decide (0 < g), rfl, ?_⟩
  by_cases hg : 0 < g
  · dsimp only
    rw [if_pos (by simpa using hg)]
    refine dix hσ0 h0 (show _ = some (.int g) from rfl) (.inl ⟨g, rfl, _, hσ1, g, m, rfl, rfl, hm, ?_⟩)
    show tAsg (tOp rDivI (tIxD K 2) (tVar 1)) (gD 2) _ (σ.set 3 (some (.int (g % m)))) _
    have k0 : (σ.set 3 (some (V.int (g % m))))[0]? = some (some (.ref a)) := by rw [List.getElem?_set_ne (by decide)]; exact hσ0
    have k1 : (σ.set 3 (some (V.int (g % m))))[1]? = some (some (.int m)) := by rw [List.getElem?_set_ne (by decide)]; exact hσ1
    refine dix k0 h0 (show _ = some (.int g) from rfl) ⟨_, k1, g, m, rfl, rfl, ⟨hm, hm2⟩, ?_⟩
    refine dset k0 h0 (show _ = some 2 from rfl) ⟨.int (g % m), ?_, ?_⟩
    · rw [List.getElem?_set_self hl]
    · show E.rt _ (upd (upd _ _ _) _ _)
      rw [upd_upd]
      exact hH _ _ _ _ (Int.emod_nonneg _ (by omega)) (Int.emod_lt_of_pos _ hm) ⟨b1, Int.ediv_nonneg b2 (by omega), b3, b4⟩
  · dsimp only
    rw [if_neg (by simpa using hg)]
    refine dix hσ0 h0 (show _ = some (.int x) from rfl) ⟨x, 48271, rfl, rfl, .inr ⟨by decide, by decide⟩, x * 48271, 211, rfl, rfl, .inl ⟨_, rfl, _, _, rfl, rfl, (by decide : (0:Int) < 2147483647), ?_⟩⟩
    have d1 := Int.emod_nonneg (x * 48271 + 211) (show (2147483647:Int) ≠ 0 by decide)
    have d2 := Int.emod_lt_of_pos (x * 48271 + 211) (show (0:Int) < 2147483647 by decide)
    refine dset hσ0 h0 (show _ = some 3 from rfl) ?_
    rw [upd_upd]
    refine dix hσ0 (upd_same) (show _ = some (.int ((x * 48271 + 211) % 2147483647)) from rfl) ⟨_, 16807, rfl, rfl, .inr ⟨by decide, by decide⟩, .inl ⟨_, rfl, _, 2147483629, rfl, rfl, (by decide : (0:Int) < 2147483629), _, 128, rfl, rfl, ⟨by decide, by decide⟩, .inl ⟨_, rfl, _, hσ1, _, m, rfl, rfl, hm, ?_⟩⟩⟩
    exact hH _ _ _ _ (Int.emod_nonneg _ (by omega)) (Int.emod_lt_of_pos _ hm) ⟨b1, b2, d1, d2⟩
theorem deal_first {m p g x : Int} {ns : List Int} (hac : ∀ o, SqL K (upd H a o) c (ns.map V.int)) (hc : SqL K H c (ns.map V.int)) (ha : H a = some (.lst [.ref c, .int p, .int g, .int x])) (hb : 0 ≤ p ∧ 0 ≤ g ∧ 0 ≤ x ∧ x < 2147483647) (hp : p < (ns.length : Int)) (E : Ends)
    (hE : ∀ cell p' g' x', (0 ≤ p' ∧ 0 ≤ g' ∧ 0 ≤ x' ∧ x' < 2147483647) → E.nx [some (.ref a), some (.int m), some (.int cell), none] (upd H a (.lst [.ref c, .int p', .int g', .int x']))) :
    tFirst K E [some (.ref a), some (.int m), none, none] H := by
  obtain ⟨b1, b2, b3, b4⟩ := hb
  unfold tFirst
  have hpn : p.toNat < ns.length := by omega
  have hat : atI (ns.map V.int) p = some (.int ns[p.toNat]) := by
    unfold atI ixN
    rw [List.length_map, if_pos b1, if_pos hp]
    simp [hpn]
  refine dix rfl ha (show _ = some (.ref c) from rfl) (dix rfl ha (show _ = some (.int p) from rfl) (.inl ⟨c, _, p, _, rfl, rfl, hc, hat, ?_⟩))
  generalize ns[p.toNat] = cell
  refine dix (σ := [some (.ref a), some (.int m), some (.int cell), none]) rfl ha (show _ = some (.int p) from rfl) ⟨p, 1, rfl, rfl, dset rfl ha (show _ = some 1 from rfl) ?_⟩
  refine ⟨_, rfl, 10, 18, rfl, rfl, ⟨by decide, by decide, by decide⟩, cell, (10 : Int) ^ (18 : Int).toNat, rfl, rfl, _, rfl, ?_⟩
  by_cases hc18 : (10 : Int) ^ (18 : Int).toNat ≤ cell
  · refine (if_pos (decide_eq_true hc18)).mpr ?_
    refine ⟨_, rfl, dset rfl upd_same (show _ = some 2 from rfl) ?_⟩
    rw [upd_upd]
    have c0 : (0 : Int) ≤ cell := Int.le_trans (by decide) hc18
    exact hE cell (p + 1) cell x ⟨by omega, c0, b3, b4⟩
  · refine (if_neg (fun z => hc18 (of_decide_eq_true z))).mpr ?_
    refine dix rfl upd_same (show _ = some (.int x) from rfl) ⟨x, 69621, rfl, rfl, .inr ⟨by decide, by decide⟩, _, rfl, cell, 48271, rfl, rfl, .inr ⟨by decide, by decide⟩, _, _, rfl, rfl, _, 7, rfl, rfl, .inl ⟨_, rfl, _, 2147483647, rfl, rfl, (by decide : (0:Int) < 2147483647), ?_⟩⟩
    refine dset rfl upd_same (show _ = some 3 from rfl) ?_
    rw [upd_upd]
    exact hE cell (p + 1) g _ ⟨by omega, b2, Int.emod_nonneg _ (by decide), Int.emod_lt_of_pos _ (by decide)⟩
theorem deal_reads {vs : List V} {E : XK} (h : spDeal K vs H Q E) (E' : Ends) (hE : E'.rt = Q) : tDealT K E' (L2.start ["dealer", "many", "cell", "digit"] vs) H := by
  obtain ⟨a, c, ns, m, p, g, x, rfl, hm, hm2, hc, hn, ha, hb, hQ⟩ := h
  have hcu : ∀ o, SqL K (upd H a o) c (ns.map V.int) := fun o => by
    rcases hc with (h | ⟨u, h⟩) | h
    · by_cases e : c = a
      · subst e
        rw [ha] at h
        injection h with h
        injection h with h
        cases ns with
        | nil => cases h
        | cons n ns => cases h
      · exact .inl (.inl (by rw [upd_ne e]; exact h))
    · by_cases e : c = a
      · subst e
        rw [ha] at h
        cases h
      · exact .inl (.inr ⟨u, by rw [upd_ne e]; exact h⟩)
    · exact .inr h
  have eH : upd H a (.lst [.ref c, .int p, .int g, .int x]) = H := by
    funext b
    by_cases e : b = a
    · subst e
      rw [upd_same, ha]
    · rw [upd_ne e]
  have s0 : (L2.start ["dealer", "many", "cell", "digit"] [V.ref a, V.int m]) = [some (.ref a), some (.int m), none, none] := rfl
  rw [s0]
  have tail : ∀ (σ : L2.St) (p' g' x' : Int) (k0 : σ[0]? = some (some (.ref a))) (k1 : σ[1]? = some (some (.int m))) (kl : 3 < σ.length) (kb : 0 ≤ p' ∧ 0 ≤ g' ∧ 0 ≤ x' ∧ x' < 2147483647), tTail K E' σ (upd H a (.lst [.ref c, .int p', .int g', .int x'])) := fun σ p' g' x' k0 k1 kl kb => deal_tail (K := K) (c := c) (H0 := H) k0 k1 kl hm hm2 kb hQ E' hE
  have miss : tTail K E' [some (.ref a), some (.int m), none, none] H := by
    have := tail [some (.ref a), some (.int m), none, none] p g x rfl rfl (Nat.lt_succ_self 3) hb
    rw [eH] at this
    exact this
  refine dix (i := 2) rfl ha (show _ = some (.int g) from rfl) ⟨rfl, decide (V.int g = V.int 0), rfl, ?_⟩
  by_cases hg : g = 0
  · refine (if_pos (decide_eq_true (by rw [hg]))).mpr ?_
    refine dix rfl ha (show _ = some (.int p) from rfl) (dix rfl ha (show _ = some (.ref c) from rfl) (.inl ⟨_, ns.length, rfl, .inl ⟨_, hc, by simp⟩, p, _, rfl, rfl, decide (p < (ns.length : Int)), rfl, ?_⟩))
    by_cases hp : p < (ns.length : Int)
    · refine (if_pos (decide_eq_true hp)).mpr ?_
      exact deal_first hcu hc ha hb hp _ fun cell p' g' x' kb => tail [some (.ref a), some (.int m), some (.int cell), none] p' g' x' rfl rfl (Nat.lt_succ_self 3) kb
    · exact (if_neg (fun z => hp (of_decide_eq_true z))).mpr miss
  · refine (if_neg (fun z => hg (by injection (of_decide_eq_true z)))).mpr ?_
    exact (if_neg (by decide)).mpr miss
end
end DL
/-! DL12: the machine's making; the law's own promise. -/
namespace DL
open PySem PySem.Spec PyProof.Rows L2

def ΦDealer : PhiS :=
  sRet (eLst (aCons (eLc (iE (eSl (eV 0) (pNone) (pSome (eC (.int 63))))) [1] (gN 1) (fun s R => R true s) (eUn oInt (eV 1))) (aCons (eC (.int 0)) (aCons (eC (.int 0)) (aCons (eC (.int 97)) (aNil))))))
theorem cut_ints (ns : List Int) (lo hi : Option Int) : cutD (ns.map D.int) lo hi = (cutD ns lo hi).map D.int := by
  unfold cutD
  rw [List.length_map, List.map_take, List.map_drop]
theorem cut_len {α : Type} (xs : List α) (lo hi : Option Int) : (cutD xs lo hi).length ≤ xs.length := by
  unfold cutD
  rw [List.length_take, List.length_drop]
  omega
theorem dealer_lc (R : Sl → S → Prop) (x : Sl) (s0 : S) (μ : Mu) (h1 : s0 = ⟨[x, .no], μ⟩) (v : Sl) : ∀ (ns : List Int) (acc : List D), (acc.length + ns.length < sizeLine) → R (.l (acc ++ ns.map D.int)) ⟨[x, .no], μ⟩ →
    lcL [1] s0 (gN 1) (fun s R => R true s) (eUn oInt (eV 1)) R (ns.map D.int) acc ⟨[x, v], μ⟩
  | [], acc, _, h => by
    subst h1
    have : R (.l (acc ++ [])) ⟨[x, .no], μ⟩ := h
    rw [List.append_nil] at this
    exact this
  | n :: ns, acc, hl, h => by
    simp only [List.length_cons] at hl
    simp only [List.map_cons, lcL, gN, eUn, eV, S.set, put, get, lk, oInt, fz, frz, clr, if_true]
    refine ⟨by omega, ?_⟩
    refine dealer_lc R x s0 μ h1 .no ns (acc ++ [.int n]) (by simp; omega) ?_
    rw [List.append_assoc]
    exact h
theorem dealer_h0 (ns : List Int) (μ : Mu) (h : ns.length ≤ 63) : body 2 ΦDealer [.lst (ns.map D.int)] μ fun r μ' => μ' = μ ∧ ∃ ms : List Int, ms.length ≤ 63 ∧ r = .l [.lst (ms.map D.int), .int 0, .int 0, .int 97] := by
  show lcL [1] ⟨[.d (.lst (ns.map D.int)), .no], μ⟩ (gN 1) (fun s R => R true s) (eUn oInt (eV 1)) _ (cutD (ns.map D.int) none (some 63)) [] ⟨[.d (.lst (ns.map D.int)), .no], μ⟩
  rw [cut_ints]
  have hl := cut_len ns none (some 63)
  refine dealer_lc _ _ _ _ rfl _ _ [] ?_ ?_
  · have : 64 < sizeLine := by decide
    simp only [List.length_nil]
    omega
  · exact ⟨show 4 ≤ sizeLine by decide, rfl, cutD ns none (some 63), by omega, rfl⟩

def spLaw (K : PySem.W.Frag) : Sp := fun vs H Q _ => ∃ (a : Addr) (ns : List Int), vs = [.ref a] ∧ SqL K H a (ns.map V.int) ∧ ns.length ≤ 63 ∧ ∀ H', Q (.bl true) H'
theorem law_of {P : Program} {w : World} {K : PySem.W.Frag} {mg : Str → Option Value} {base : Heap} {k : Nat} {f : Addr} {fd : FuncData} {ps : List Str} {F : FD} (h : FnOk P w K mg base CX0 k f fd ps (spD K 1 F))
    (law : ∀ (ns : List Int), ns.length ≤ 63 → F [.lst (ns.map D.int)] (fun _ => none) fun r _ => r = .d (.bl true)) : FnOk P w K mg base CX0 k f fd ps (spLaw K) :=
  h.imp fun vs H Q E ⟨a, ns, e, hS, hl, q⟩ => by
    have fin : ∀ G : Hp, Same G H → SqL K G a (ns.map V.int) → spD K 1 F vs H Q E := fun G sub hG => by
      subst e
      refine ⟨G, fun _ => none, [.lst (ns.map D.int)], fun _ => none, _, ⟨sub, fun _ _ z => by (cases z), fun _ _ z => by (cases z), fun _ _ z => by (cases z)⟩, ⟨_, [], rfl, ⟨a, _, rfl, hG, DVs.ofInts⟩, rfl⟩, rfl, law ns hl, fun r v μ' G' H' hr _ _ hv => ?_⟩
      subst hr
      have hv : v = .bl true := hv
      rw [hv]
      exact q H'
    rcases hS with (h | ⟨o, h⟩) | h
    · refine fin (upd (fun _ => none) a (.lst (ns.map V.int))) (fun b u z => ?_) (.inl (.inl upd_same))
      by_cases e : b = a
      · subst e
        rw [upd_same] at z
        exact h.trans z
      · rw [upd_ne e] at z
        cases z
    · refine fin (fun b => if b = a then H a else none) (fun b u z => ?_) (.inl (.inr ⟨o, ?_⟩))
      · by_cases e : b = a
        · subst e
          simpa using z
        · simp [e] at z
      · simpa using h
    · exact fin (fun _ => none) (fun _ _ z => by cases z) (.inr h)
end DL
/-! DL13: rewriting what a body does, over trees. -/
namespace DL
open PySem PySem.Spec PyProof.Rows L2

section
variable {R : Sl → Prop} {i j : Int} {x y : Str} {b c : Bool} {xs ys : List D} {ks : List Key} {d e : D}
theorem Str.beq_dec (x y : Str) : (x == y) = decide (x = y) := by
  by_cases h : x = y
  · subst h; simp
  · rw [decide_eq_false h]; exact beq_eq_false_iff_ne.mpr h
theorem xEq_ii : oEq (.int i) (.int j) R = R (.d (.bl (decide (i = j)))) := by show (True ∧ _) = _; rw [true_and]; rfl
theorem xEq_ss : oEq (.str x) (.str y) R = R (.d (.bl (decide (x = y)))) := by show (True ∧ R (.d (.bl (x == y)))) = _; rw [true_and, Str.beq_dec]
theorem xEq_nn : oEq .non .non R = R (.d (.bl true)) := by show (True ∧ _) = _; rw [true_and]; rfl
theorem xEq_bb : oEq (.bl b) (.bl c) R = R (.d (.bl (b == c))) := by show (True ∧ _) = _; rw [true_and]; rfl
theorem xEq_ni : oEq .non (.int j) R = R (.d (.bl false)) := by show (True ∧ _) = _; rw [true_and]; rfl
theorem xEq_in : oEq (.int j) .non R = R (.d (.bl false)) := by show (True ∧ _) = _; rw [true_and]; rfl
theorem xNe_ii : oNe (.int i) (.int j) R = R (.d (.bl (!decide (i = j)))) := by show (True ∧ _) = _; rw [true_and]; rfl
theorem xNe_ss : oNe (.str x) (.str y) R = R (.d (.bl (!decide (x = y)))) := by show (True ∧ R (.d (.bl (!(x == y))))) = _; rw [true_and, Str.beq_dec]
theorem xLt_ii : oLt (.int i) (.int j) R = R (.d (.bl (decide (i < j)))) := by show (True ∧ _) = _; rw [true_and]; rfl
theorem xGt_ii : oGt (.int i) (.int j) R = R (.d (.bl (decide (j < i)))) := by show (True ∧ _) = _; rw [true_and]; rfl
theorem not_dec (p : Prop) [Decidable p] : (!decide p) = decide (¬ p) := by by_cases h : p <;> simp [h]
theorem xLe_ii : oLe (.int i) (.int j) R = R (.d (.bl (decide (i ≤ j)))) := by
  show (True ∧ R (.d (.bl (!decide (j < i))))) = _
  rw [true_and, not_dec]
  congr 3
  simp
theorem xGe_ii : oGe (.int i) (.int j) R = R (.d (.bl (decide (j ≤ i)))) := by
  show (True ∧ R (.d (.bl (!decide (i < j))))) = _
  rw [true_and, not_dec]
  congr 3
  simp
theorem xAdd_ii : oAdd (.int i) (.int j) R = R (.d (.int (i + j))) := propext Iff.rfl
theorem xAdd_ss : oAdd (.str x) (.str y) R = (x.length + y.length ≤ sizeLine ∧ R (.d (.str (x ++ y)))) := propext Iff.rfl
theorem xAdd_tt : oAdd (.tup xs) (.tup ys) R = (xs.length + ys.length ≤ sizeLine ∧ R (.d (.tup (xs ++ ys)))) := propext Iff.rfl
theorem xAdd_ll : oAdd (.lst xs) (.lst ys) R = (xs.length + ys.length ≤ sizeLine ∧ R (.l (xs ++ ys))) := propext Iff.rfl
theorem xSub_ii : oSub (.int i) (.int j) R = R (.d (.int (i - j))) := propext Iff.rfl
theorem xMul_ii : oMul (.int i) (.int j) R = (cMul i j ∧ R (.d (.int (i * j)))) := propext Iff.rfl
theorem xDiv_ii : oDiv (.int i) (.int j) R = (cDiv i j ∧ R (.d (.int (i / j)))) := propext Iff.rfl
theorem xMod_ii : oMod (.int i) (.int j) R = (0 < j ∧ R (.d (.int (i % j)))) := propext Iff.rfl
theorem xPow_ii : oPow (.int i) (.int j) R = (CPow i j ∧ R (.d (.int (i ^ j.toNat)))) := propext Iff.rfl
theorem xNeg_i : oNeg (.int i) R = R (.d (.int (-i))) := propext Iff.rfl
theorem xInt_i : oInt (.int i) R = R (.d (.int i)) := propext Iff.rfl
theorem xInt_b : oInt (.bl b) R = R (.d (.int (if b then 1 else 0))) := propext Iff.rfl
theorem xLen_t : oLen (.tup xs) R = R (.d (.int xs.length)) := propext Iff.rfl
theorem xLen_l : oLen (.lst xs) R = R (.d (.int xs.length)) := propext Iff.rfl
theorem xLen_s : oLen (.str x) R = (x.length ≤ sizeLine ∧ R (.d (.int x.length))) := propext Iff.rfl
theorem xLen_d : oLen (.dic ks xs) R = R (.d (.int ks.length)) := propext Iff.rfl
theorem xTuple_l : oTuple (.lst xs) R = R (.d (.tup xs)) := propext Iff.rfl
theorem xTuple_t : oTuple (.tup xs) R = R (.d (.tup xs)) := propext Iff.rfl
theorem xList_l : oList (.lst xs) R = R (.l xs) := propext Iff.rfl
theorem xList_t : oList (.tup xs) R = R (.l xs) := propext Iff.rfl
theorem xIx_t : oIx (.tup xs) (.int i) R = match atD xs i with
  | some d => R (.d d)
  | none => False := propext Iff.rfl
theorem xIx_l : oIx (.lst xs) (.int i) R = match atD xs i with
  | some d => R (.d d)
  | none => False := propext Iff.rfl
theorem xIx_s : oIx (.str x) (.int i) R = (x.length ≤ sizeLine ∧ match atD x.cps.toList i with
  | some c => R (.d (.str ⟨#[c]⟩))
  | none => False) := propext Iff.rfl
theorem xIx_di : oIx (.dic ks xs) (.int i) R = match dlook ks xs (.inl i) with
  | some d => R (.d d)
  | none => False := propext Iff.rfl
theorem xIx_ds : oIx (.dic ks xs) (.str x) R = match dlook ks xs (.inr x) with
  | some d => R (.d d)
  | none => False := propext Iff.rfl
section
variable {α : Type} {p q r s t u v w : α} {l : List α}
theorem at0 : atD (p :: l) 0 = some p := rfl
theorem at1 : atD (p :: q :: l) 1 = some q := rfl
theorem at2 : atD (p :: q :: r :: l) 2 = some r := rfl
theorem at3 : atD (p :: q :: r :: s :: l) 3 = some s := rfl
theorem at4 : atD (p :: q :: r :: s :: t :: l) 4 = some t := rfl
theorem at5 : atD (p :: q :: r :: s :: t :: u :: l) 5 = some u := rfl
theorem at6 : atD (p :: q :: r :: s :: t :: u :: v :: l) 6 = some v := rfl
theorem at7 : atD (p :: q :: r :: s :: t :: u :: v :: w :: l) 7 = some w := rfl
theorem atD_nat {n : Nat} : atD l (n : Int) = l[n]? := rfl
theorem atD_in {l : List α} {i : Int} (h0 : 0 ≤ i) (h1 : i < l.length) : ∃ d, atD l i = some d ∧ d ∈ l := by
  obtain ⟨n, rfl⟩ := Int.eq_ofNat_of_zero_le h0
  have h : n < l.length := by simpa using h1
  exact ⟨l[n], by show l[n]? = _; rw [List.getElem?_eq_getElem h], List.getElem_mem h⟩
end
theorem xIs_nn {f : Bool → Bool} : oIs f .non .non R = R (.d (.bl (f true))) := propext Iff.rfl
theorem xIs_i {f : Bool → Bool} : oIs f (.int i) .non R = R (.d (.bl (f false))) := propext Iff.rfl
theorem xIs_s {f : Bool → Bool} : oIs f (.str x) .non R = R (.d (.bl (f false))) := propext Iff.rfl
theorem xIs_b {f : Bool → Bool} : oIs f (.bl b) .non R = R (.d (.bl (f false))) := propext Iff.rfl
theorem xIs_t {f : Bool → Bool} : oIs f (.tup xs) .non R = R (.d (.bl (f false))) := propext Iff.rfl
theorem xIs_l {f : Bool → Bool} : oIs f (.lst xs) .non R = R (.d (.bl (f false))) := propext Iff.rfl
theorem xIs_d {f : Bool → Bool} : oIs f (.dic ks xs) .non R = R (.d (.bl (f false))) := propext Iff.rfl
theorem xIsB_n {f : Bool → Bool} : oIsB f .non (.bl b) R = R (.d (.bl (f false))) := by
  refine propext ⟨fun h => ?_, fun h => .inl ⟨true, rfl, rfl, h⟩⟩
  rcases h with ⟨_, _, _, h⟩ | ⟨_, z, _⟩ | ⟨_, z, _⟩ | ⟨_, z, _⟩
  · exact h
  · cases z
  · cases z
  · cases z
theorem xIsB_i {f : Bool → Bool} : oIsB f (.int i) (.bl b) R = R (.d (.bl (f false))) := by
  refine propext ⟨fun h => ?_, fun h => .inr (.inr (.inl ⟨i, rfl, h⟩))⟩
  rcases h with ⟨_, z, _⟩ | ⟨_, z, _⟩ | ⟨_, z, h⟩ | ⟨_, z, _⟩
  · cases z
  · cases z
  · exact h
  · cases z
theorem xIsB_s {f : Bool → Bool} : oIsB f (.str x) (.bl b) R = R (.d (.bl (f false))) := by
  refine propext ⟨fun h => ?_, fun h => .inr (.inr (.inr ⟨x, rfl, h⟩))⟩
  rcases h with ⟨_, z, _⟩ | ⟨_, z, _⟩ | ⟨_, z, _⟩ | ⟨_, z, h⟩
  · cases z
  · cases z
  · cases z
  · exact h
theorem xIsB_b {f : Bool → Bool} : oIsB f (.bl c) (.bl b) R = R (.d (.bl (f (decide (c = b))))) := by
  refine propext ⟨fun h => ?_, fun h => .inr (.inl ⟨c, rfl, h⟩)⟩
  rcases h with ⟨_, z, _⟩ | ⟨_, z, h⟩ | ⟨_, z, _⟩ | ⟨_, z, _⟩
  · cases z
  · cases z; exact h
  · cases z
  · cases z
/-! isinstance -/
theorem yInt_i : oIsT isInt (.int i) R = R (.d (.bl true)) := propext Iff.rfl
theorem yInt_b : oIsT isInt (.bl b) R = R (.d (.bl true)) := propext Iff.rfl
theorem yInt_n : oIsT isInt .non R = R (.d (.bl false)) := propext Iff.rfl
theorem yInt_s : oIsT isInt (.str x) R = R (.d (.bl false)) := propext Iff.rfl
theorem yInt_t : oIsT isInt (.tup xs) R = R (.d (.bl false)) := propext Iff.rfl
theorem yInt_l : oIsT isInt (.lst xs) R = R (.d (.bl false)) := propext Iff.rfl
theorem yBool_i : oIsT (isOnly "bool") (.int i) R = R (.d (.bl false)) := propext Iff.rfl
theorem yBool_b : oIsT (isOnly "bool") (.bl b) R = R (.d (.bl true)) := propext Iff.rfl
theorem yBool_n : oIsT (isOnly "bool") .non R = R (.d (.bl false)) := propext Iff.rfl
theorem yBool_s : oIsT (isOnly "bool") (.str x) R = R (.d (.bl false)) := propext Iff.rfl
theorem yBool_t : oIsT (isOnly "bool") (.tup xs) R = R (.d (.bl false)) := propext Iff.rfl
theorem yBool_l : oIsT (isOnly "bool") (.lst xs) R = R (.d (.bl false)) := propext Iff.rfl
theorem yStr_i : oIsT (isOnly "str") (.int i) R = R (.d (.bl false)) := propext Iff.rfl
theorem yStr_b : oIsT (isOnly "str") (.bl b) R = R (.d (.bl false)) := propext Iff.rfl
theorem yStr_n : oIsT (isOnly "str") .non R = R (.d (.bl false)) := propext Iff.rfl
theorem yStr_s : oIsT (isOnly "str") (.str x) R = R (.d (.bl true)) := propext Iff.rfl
theorem yStr_t : oIsT (isOnly "str") (.tup xs) R = R (.d (.bl false)) := propext Iff.rfl
theorem yStr_l : oIsT (isOnly "str") (.lst xs) R = R (.d (.bl false)) := propext Iff.rfl
theorem yTup_i : oIsT (isOnly "tuple") (.int i) R = R (.d (.bl false)) := propext Iff.rfl
theorem yTup_b : oIsT (isOnly "tuple") (.bl b) R = R (.d (.bl false)) := propext Iff.rfl
theorem yTup_n : oIsT (isOnly "tuple") .non R = R (.d (.bl false)) := propext Iff.rfl
theorem yTup_s : oIsT (isOnly "tuple") (.str x) R = R (.d (.bl false)) := propext Iff.rfl
theorem yTup_t : oIsT (isOnly "tuple") (.tup xs) R = R (.d (.bl true)) := propext Iff.rfl
theorem yTup_l : oIsT (isOnly "tuple") (.lst xs) R = R (.d (.bl false)) := propext Iff.rfl
theorem yLst_i : oIsT (isOnly "list") (.int i) R = R (.d (.bl false)) := propext Iff.rfl
theorem yLst_n : oIsT (isOnly "list") .non R = R (.d (.bl false)) := propext Iff.rfl
theorem yLst_s : oIsT (isOnly "list") (.str x) R = R (.d (.bl false)) := propext Iff.rfl
theorem yLst_t : oIsT (isOnly "list") (.tup xs) R = R (.d (.bl false)) := propext Iff.rfl
theorem yLst_l : oIsT (isOnly "list") (.lst xs) R = R (.d (.bl true)) := propext Iff.rfl
/-! in -/
theorem xIn_t {f : Bool → Bool} : oIn f (.str x) (.tup ys) R = (cIn (.str x) ys ∧ R (.d (.bl (f (ys.any fun z => D.eq z (.str x)))))) := propext Iff.rfl
theorem xIn_l {f : Bool → Bool} : oIn f (.str x) (.lst ys) R = (cIn (.str x) ys ∧ R (.d (.bl (f (ys.any fun z => D.eq z (.str x)))))) := propext Iff.rfl
theorem xIn_it {f : Bool → Bool} : oIn f (.int i) (.tup ys) R = (cIn (.int i) ys ∧ R (.d (.bl (f (ys.any fun z => D.eq z (.int i)))))) := propext Iff.rfl
theorem xIn_il {f : Bool → Bool} : oIn f (.int i) (.lst ys) R = (cIn (.int i) ys ∧ R (.d (.bl (f (ys.any fun z => D.eq z (.int i)))))) := propext Iff.rfl
theorem xIn_sd {f : Bool → Bool} : oIn f (.str x) (.dic ks ys) R = R (.d (.bl (f (dlook ks ys (.inr x)).isSome))) := propext Iff.rfl
/-! pairs of ints compared -/
theorem ord_ii {a b c d : Int} : cOrd (.tup [.int a, .int b]) (.tup [.int c, .int d]) := ⟨⟨⟨by rfl, by rfl⟩, (fun z => by cases z), by rfl⟩, by show min 1 1 ≤ 50; decide⟩
theorem lt_ii {a b c d : Int} : D.lt (.tup [.int a, .int b]) (.tup [.int c, .int d]) = decide (a < c ∨ (a = c ∧ b < d)) := by
  show (if (a == c) = true then (if (b == d) = true then false else decide (b < d)) else decide (a < c)) = _
  by_cases h : a = c
  · subst h
    by_cases h2 : b = d
    · subst h2; simp
    · simp [h2]
  · simp [h]
theorem xLt_pp {a b c d : Int} : oLt (.tup [.int a, .int b]) (.tup [.int c, .int d]) R = R (.d (.bl (decide (a < c ∨ (a = c ∧ b < d))))) := by
  show (_ ∧ _) = _
  rw [eq_true (ord_ii (a := a) (b := b) (c := c) (d := d)), true_and, lt_ii]
theorem xGt_pp {a b c d : Int} : oGt (.tup [.int a, .int b]) (.tup [.int c, .int d]) R = R (.d (.bl (decide (c < a ∨ (c = a ∧ d < b))))) := by
  show (_ ∧ _) = _
  rw [eq_true (ord_ii (a := c) (b := d) (c := a) (d := b)), true_and, lt_ii]
theorem xLe_pp {a b c d : Int} : oLe (.tup [.int a, .int b]) (.tup [.int c, .int d]) R = R (.d (.bl (!decide (c < a ∨ (c = a ∧ d < b))))) := by
  show (_ ∧ _) = _
  rw [eq_true (ord_ii (a := c) (b := d) (c := a) (d := b)), true_and, lt_ii]
theorem xGe_pp {a b c d : Int} : oGe (.tup [.int a, .int b]) (.tup [.int c, .int d]) R = R (.d (.bl (!decide (a < c ∨ (a = c ∧ b < d))))) := by
  show (_ ∧ _) = _
  rw [eq_true (ord_ii (a := a) (b := b) (c := c) (d := d)), true_and, lt_ii]
theorem xII {g : Int → Int → Int} : oII g [.int i, .int j] R = R (.d (.int (g i j))) := propext Iff.rfl
end
/-! a statement's value is weakened -/
theorem deal_ok {m : Int} {μ : Mu} {R : Sl → Mu → Prop} (h0 : 0 < m) (h1 : m < 1073741824) (h : ∀ d : Int, 0 ≤ d → d < m → R (.d (.int d)) μ) : fnDeal [.dlr, .int m] μ R := ⟨m, rfl, h0, h1, h⟩
/-! bounds -/
def Sm (a : Nat) (i : Int) : Prop := i.natAbs < 2 ^ a
theorem Sm.mono {a b : Nat} {i : Int} (h : Sm a i) (l : a ≤ b) : Sm b i := Nat.lt_of_lt_of_le h (Nat.pow_le_pow_right (by decide) l)
theorem Sm.add {a b : Nat} {i j : Int} (h : Sm a i) (h' : Sm b j) : Sm (max a b + 1) (i + j) := by
  have h1 := h.mono (Nat.le_max_left a b)
  have h2 := h'.mono (Nat.le_max_right a b)
  unfold Sm at *
  rw [Nat.pow_succ]
  omega
theorem Sm.neg {a : Nat} {i : Int} (h : Sm a i) : Sm a (-i) := by unfold Sm at *; omega
theorem Sm.sub {a b : Nat} {i j : Int} (h : Sm a i) (h' : Sm b j) : Sm (max a b + 1) (i - j) := by rw [Int.sub_eq_add_neg]; exact h.add h'.neg
theorem Sm.mul {a b : Nat} {i j : Int} (h : Sm a i) (h' : Sm b j) : Sm (a + b) (i * j) := by
  unfold Sm at *
  rw [Int.natAbs_mul, Nat.pow_add]
  exact Nat.mul_lt_mul'' h h'
theorem Sm.cmul {a b : Nat} {i j : Int} (h : Sm a i) (h' : Sm b j) (l : a + b ≤ 900000 := by decide) : cMul i j :=
  .inr (wide_mul (h.mono (Nat.le_succ a)) (h'.mono (Nat.le_succ b)) (Nat.succ_pos _) (Nat.succ_pos _) (by omega))
theorem Sm.cdiv {a : Nat} {i j : Int} (h : Sm a j) (h0 : 0 < j) (l : a ≤ 8999 := by decide) : cDiv i j := by
  refine ⟨h0, .inr ?_⟩
  have hn : j.natAbs ≠ 0 := by omega
  have := (Nat.log2_lt hn).mpr h
  omega
theorem cMul_small {i j : Int} (h : -(2 ^ 64) < j) (h' : j < 2 ^ 64) : cMul i j := .inl (.inr ⟨h, h'⟩)
theorem cMul_smallL {i j : Int} (h : -(2 ^ 64) < i) (h' : i < 2 ^ 64) : cMul i j := .inl (.inl ⟨h, h'⟩)
/-! ### one step of a body, at a state in sight -/
def vR : Sl → Nat → (Sl → S → Prop) → S → Prop
  | .d d, _, R, s => R (.d d) s
  | .l _, i, R, s => R (.b i) s
  | .k _ _, i, R, s => R (.b i) s
  | .t _ _, i, R, s => R (.b i) s
  | _, _, _, _ => False
def lkS : Sl → (D → Prop) → Prop
  | .d d, k => k d
  | .l ds, k => k (.lst ds)
  | .k ks ds, k => k (.dic ks ds)
  | .t ks ds, k => k (.dit ks ds)
  | _, _ => False
def tBk (r : Sl) (s : S) (R : Bool → S → Prop) : Prop := match r with
  | .d (.bl b) => R b s
  | _ => False
def rtk : Sl → S → (Sl → Mu → Prop) → Prop
  | .b i, s, R => R (get s.ρ i) s.μ
  | r, s, R => R r s.μ
def r1k (ds : List D) (P : List D → S → Prop) (s : S) : Prop := match ds with
  | [.int j] => (-(2 ^ 62) ≤ j ∧ j < 2 ^ 62) ∧ P (rng 0 j.toNat) s
  | _ => False
def r2k (ds : List D) (P : List D → S → Prop) (s : S) : Prop := match ds with
  | [.int i, .int j] => (-(2 ^ 62) ≤ i ∧ i < 2 ^ 62 ∧ -(2 ^ 62) ≤ j ∧ j < 2 ^ 62) ∧ P (rng i (j - i).toNat) s
  | _ => False
def psk (r : Sl) (s : S) (R : Option Int → S → Prop) : Prop := match r with
  | .d (.int i) => R (some i) s
  | _ => False
def appk : Sl → Nat → D → S → (S → Prop) → Prop
  | .l ds, i, d, s, k => ds.length < sizeLine ∧ k (s.set i (.l (ds ++ [d])))
  | _, _, _, _, _ => False
def appk0 : Sl → Prop → Prop
  | .l _, P => P
  | _, _ => False
def chk (r : Sl) (k : Bool → Prop) : Prop := match r with
  | .d (.bl b) => k b
  | _ => False
section
variable {ρ : List Sl} {μ : Mu} {R : Sl → S → Prop} {RT : Bool → S → Prop} {RA : List D → S → Prop} {RS : S → Prop} {RM : Sl → Mu → Prop} {RI : List D → S → Prop} {RO : Option Int → S → Prop} {s : S} {d e : D} {ds es : List D} {ks : List Key} {i j n : Nat} {b : Bool} {x : Str} {φ φ1 φ2 φ3 : PhiE} {ψ : PhiA} {τ τ1 τ2 : PhiT} {o : O2} {o1 : O1} {oa : OA} {F : FD} {k : D → Prop} {ka : D → S → Prop} {Φ Φ1 Φ2 : PhiS} {Δ : DE} {γ : PhiG} {γs : PhiGs} {π : PhiI} {gD : List D → List D} {πl πh : PhiO} {kb : Bool → Prop} {l : List Sl} {y : Sl}
theorem z0 : get (y :: l) 0 = y := rfl
theorem z1 : get (y :: l) (n + 1) = get l n := rfl
theorem z2 : put (y :: l) 0 (.d d) = .d d :: l := rfl
theorem zput0 {y' : Sl} : put (y :: l) 0 y' = y' :: l := rfl
theorem zput1 {y' : Sl} : put (y :: l) (n + 1) y' = y :: put l n y' := rfl
theorem zC : eC d ⟨ρ, μ⟩ R = R (.d d) ⟨ρ, μ⟩ := propext Iff.rfl
theorem zV : eV i ⟨ρ, μ⟩ R = vR (get ρ i) i R ⟨ρ, μ⟩ := by
  unfold eV
  cases get ρ i <;> rfl
theorem zv_d : vR (.d d) i R s = R (.d d) s := propext Iff.rfl
theorem zv_l : vR (.l ds) i R s = R (.b i) s := propext Iff.rfl
theorem zv_k : vR (.k ks ds) i R s = R (.b i) s := propext Iff.rfl
theorem zOp : eOp o φ1 φ2 ⟨ρ, μ⟩ R = φ1 ⟨ρ, μ⟩ fun r1 s1 => φ2 s1 fun r2 s2 => lk r1 s2 fun x => lk r2 s2 fun y => o x y fun r => R r s2 := propext Iff.rfl
theorem zUn : eUn o1 φ ⟨ρ, μ⟩ R = φ ⟨ρ, μ⟩ fun r s1 => lk r s1 fun x => o1 x fun r => R r s1 := propext Iff.rfl
theorem zlk_d : lk (.d d) s k = k d := propext Iff.rfl
theorem zlk_l : lk (.l ds) s k = k (.lst ds) := propext Iff.rfl
theorem zlk_k : lk (.k ks ds) s k = k (.dic ks ds) := propext Iff.rfl
theorem zlk_b : lk (.b i) ⟨ρ, μ⟩ k = lkS (get ρ i) k := by
  show (match get ρ i with
    | .d d => k d
    | .l ds => k (.lst ds)
    | .k ks ds => k (.dic ks ds)
    | .t ks ds => k (.dit ks ds)
    | _ => False) = _
  cases get ρ i <;> rfl
theorem zls_d : lkS (.d d) k = k d := propext Iff.rfl
theorem zls_l : lkS (.l ds) k = k (.lst ds) := propext Iff.rfl
theorem zls_k : lkS (.k ks ds) k = k (.dic ks ds) := propext Iff.rfl
theorem zfz_d : fz (.d d) s ka = ka d s := propext Iff.rfl
theorem zfz_l : fz (.l ds) s ka = ka (.lst ds) s := propext Iff.rfl
theorem zfz_k : fz (.k ks ds) s ka = ka (.dic ks ds) s := propext Iff.rfl
theorem zfz_b : fz (.b i) ⟨ρ, μ⟩ ka = ka (frzD (get ρ i)) ⟨put ρ i (.d (frzD (get ρ i))), μ⟩ := propext Iff.rfl
theorem zfr_l : frzD (.l ds) = .lst ds := rfl
theorem zfr_k : frzD (.k ks ds) = .dic ks ds := rfl
theorem zfr_d : frzD (.d d) = d := rfl
theorem ztB : tB φ ⟨ρ, μ⟩ RT = φ ⟨ρ, μ⟩ fun r s1 => tBk r s1 RT := propext Iff.rfl
theorem zbk : tBk (.d (.bl b)) s RT = RT b s := propext Iff.rfl
theorem ztT : tT φ ⟨ρ, μ⟩ RT = φ ⟨ρ, μ⟩ fun r s1 => lk r s1 fun d => truD (fun b => RT b s1) d := propext Iff.rfl
theorem ztr_b : truD kb (.bl b) = kb b := propext Iff.rfl
theorem ztr_i {i : Int} : truD kb (.int i) = kb (i != 0) := propext Iff.rfl
theorem ztr_n : truD kb .non = kb false := propext Iff.rfl
theorem ztr_t : truD kb (.tup ds) = kb (!ds.isEmpty) := propext Iff.rfl
theorem ztr_l : truD kb (.lst ds) = kb (!ds.isEmpty) := propext Iff.rfl
theorem ztr_s : truD kb (.str x) = (x.length ≤ sizeLine ∧ kb ((x.length : Int) != 0)) := propext Iff.rfl
theorem ztAnd : tAnd τ1 τ2 ⟨ρ, μ⟩ RT = τ1 ⟨ρ, μ⟩ fun c s1 => if c = true then τ2 s1 RT else RT false s1 := propext Iff.rfl
theorem ztOr : tOr τ1 τ2 ⟨ρ, μ⟩ RT = τ1 ⟨ρ, μ⟩ fun c s1 => if c = true then RT true s1 else τ2 s1 RT := propext Iff.rfl
theorem ztNot : tNot τ ⟨ρ, μ⟩ RT = τ ⟨ρ, μ⟩ fun c s1 => RT (!c) s1 := propext Iff.rfl
theorem zeAnd : eAnd φ1 φ2 ⟨ρ, μ⟩ R = tB φ1 ⟨ρ, μ⟩ fun c s1 => if c = true then φ2 s1 R else R (.d (.bl false)) s1 := propext Iff.rfl
theorem zeOr : eOr φ1 φ2 ⟨ρ, μ⟩ R = tB φ1 ⟨ρ, μ⟩ fun c s1 => if c = true then R (.d (.bl true)) s1 else φ2 s1 R := propext Iff.rfl
theorem zeNot : eNot τ ⟨ρ, μ⟩ R = τ ⟨ρ, μ⟩ fun c s1 => R (.d (.bl !c)) s1 := propext Iff.rfl
theorem zeIf : eIf τ φ1 φ2 ⟨ρ, μ⟩ R = τ ⟨ρ, μ⟩ fun c s1 => if c = true then φ1 s1 R else φ2 s1 R := propext Iff.rfl
theorem zaNil : aNil ⟨ρ, μ⟩ RA = RA [] ⟨ρ, μ⟩ := propext Iff.rfl
theorem zaCons : aCons φ ψ ⟨ρ, μ⟩ RA = φ ⟨ρ, μ⟩ fun r s1 => fz r s1 fun d s2 => ψ s2 fun ds s3 => RA (d :: ds) s3 := propext Iff.rfl
theorem zTup : eTup ψ ⟨ρ, μ⟩ R = ψ ⟨ρ, μ⟩ fun ds s1 => ds.length ≤ sizeLine ∧ R (.d (.tup ds)) s1 := propext Iff.rfl
theorem zLst : eLst ψ ⟨ρ, μ⟩ R = ψ ⟨ρ, μ⟩ fun ds s1 => ds.length ≤ sizeLine ∧ R (.l ds) s1 := propext Iff.rfl
theorem zCB : eCB oa ψ ⟨ρ, μ⟩ R = ψ ⟨ρ, μ⟩ fun ds s1 => oa ds fun r => R r s1 := propext Iff.rfl
theorem zCall : eCall F es ψ ⟨ρ, μ⟩ R = ψ ⟨ρ, μ⟩ fun ds s1 => F (ds ++ es) s1.μ fun r μ' => R r ⟨s1.ρ, μ'⟩ := propext Iff.rfl
theorem zCallK : eCallK F gD ψ ⟨ρ, μ⟩ R = ψ ⟨ρ, μ⟩ fun ds s1 => F (gD ds) s1.μ fun r μ' => R r ⟨s1.ρ, μ'⟩ := propext Iff.rfl
theorem zfdn : fdn n F (d :: ds) μ RM = ((d :: ds).length = n ∧ F (d :: ds) μ RM) := propext Iff.rfl
theorem zDicK : eDicK ⟨ρ, μ⟩ R = R (.k [] []) ⟨ρ, μ⟩ := propext Iff.rfl
theorem zpNone : pNone ⟨ρ, μ⟩ RO = RO none ⟨ρ, μ⟩ := propext Iff.rfl
theorem zpSome : pSome φ ⟨ρ, μ⟩ RO = φ ⟨ρ, μ⟩ fun r s1 => psk r s1 RO := propext Iff.rfl
theorem zpsk {i : Int} : psk (.d (.int i)) s RO = RO (some i) s := propext Iff.rfl
theorem zSl : eSl φ πl πh ⟨ρ, μ⟩ R = φ ⟨ρ, μ⟩ fun r s1 => πl s1 fun i s2 => πh s2 fun j s3 => lk r s3 fun x => oSl x i j fun r => R r s3 := propext Iff.rfl
theorem zChain {o' : O2} : eChain o o' φ1 φ2 φ3 ⟨ρ, μ⟩ R = φ1 ⟨ρ, μ⟩ fun r1 s1 => φ2 s1 fun r2 s2 => lk r1 s2 fun x => lk r2 s2 fun y => o x y fun z => chk z fun k => if k = true then φ3 s2 fun r3 s3 => lk r2 s3 fun y' => lk r3 s3 fun w => o' y' w fun r => R r s3 else R (.d (.bl false)) s2 := propext Iff.rfl
theorem zchk : chk (.d (.bl b)) kb = kb b := propext Iff.rfl
theorem zSeq : sSeq Φ1 Φ2 Δ ⟨ρ, μ⟩ = Φ1 ⟨Φ2 Δ, Δ.rt, Δ.bk, Δ.ct⟩ ⟨ρ, μ⟩ := propext Iff.rfl
theorem zsNil : sNil Δ ⟨ρ, μ⟩ = Δ.nx ⟨ρ, μ⟩ := propext Iff.rfl
theorem zBreak : sBreak Δ ⟨ρ, μ⟩ = Δ.bk ⟨ρ, μ⟩ := propext Iff.rfl
theorem zCont : sCont Δ ⟨ρ, μ⟩ = Δ.ct ⟨ρ, μ⟩ := propext Iff.rfl
theorem zIf : sIf τ Φ1 Φ2 Δ ⟨ρ, μ⟩ = τ ⟨ρ, μ⟩ fun c s1 => if c = true then Φ1 Δ s1 else Φ2 Δ s1 := propext Iff.rfl
theorem zSet : sSet i φ Δ ⟨ρ, μ⟩ = φ ⟨ρ, μ⟩ fun r s1 => st1 i r s1 Δ.nx := propext Iff.rfl
theorem zs_d : st1 i (.d d) ⟨ρ, μ⟩ RS = RS ⟨put ρ i (.d d), μ⟩ := propext Iff.rfl
theorem zs_l : st1 i (.l ds) ⟨ρ, μ⟩ RS = RS ⟨put ρ i (.l ds), μ⟩ := propext Iff.rfl
theorem zs_k : st1 i (.k ks ds) ⟨ρ, μ⟩ RS = RS ⟨put ρ i (.k ks ds), μ⟩ := propext Iff.rfl
theorem zs_b : st1 i (.b j) ⟨ρ, μ⟩ RS = RS ⟨put (put ρ j (.d (frzD (get ρ j)))) i (.d (frzD (get ρ j))), μ⟩ := propext Iff.rfl
theorem zRet : sRet φ Δ ⟨ρ, μ⟩ = φ ⟨ρ, μ⟩ fun r s1 => rtk r s1 Δ.rt := by
  show φ ⟨ρ, μ⟩ (fun r s1 => match r with
    | .b i => Δ.rt (get s1.ρ i) s1.μ
    | r => Δ.rt r s1.μ) = _
  congr 1
  funext r s1
  cases r <;> rfl
theorem zr_d : rtk (.d d) ⟨ρ, μ⟩ RM = RM (.d d) μ := propext Iff.rfl
theorem zr_l : rtk (.l ds) ⟨ρ, μ⟩ RM = RM (.l ds) μ := propext Iff.rfl
theorem zr_k : rtk (.k ks ds) ⟨ρ, μ⟩ RM = RM (.k ks ds) μ := propext Iff.rfl
theorem zr_b : rtk (.b i) ⟨ρ, μ⟩ RM = RM (get ρ i) μ := propext Iff.rfl
theorem zRetN : sRetN Δ ⟨ρ, μ⟩ = Δ.rt (.d .non) μ := propext Iff.rfl
theorem zDrop : sDrop φ Δ ⟨ρ, μ⟩ = φ ⟨ρ, μ⟩ fun _ s1 => Δ.nx s1 := propext Iff.rfl
theorem zFor : sFor π γ Φ Δ ⟨ρ, μ⟩ = π ⟨ρ, μ⟩ fun ds s1 => forL γ Φ Δ ds s1 := propext Iff.rfl
theorem ziE : iE φ ⟨ρ, μ⟩ RI = φ ⟨ρ, μ⟩ fun r s1 => fz r s1 fun d s2 => itemsOf d fun ds => RI ds s2 := propext Iff.rfl
theorem zit_t {K : List D → Prop} : itemsOf (.tup ds) K = K ds := propext Iff.rfl
theorem zit_l {K : List D → Prop} : itemsOf (.lst ds) K = K ds := propext Iff.rfl
theorem zit_s {K : List D → Prop} : itemsOf (.str x) K = K (x.cps.toList.map fun c => .str ⟨#[c]⟩) := propext Iff.rfl
theorem zR1 : iR1 ψ ⟨ρ, μ⟩ RI = ψ ⟨ρ, μ⟩ fun ds s1 => r1k ds RI s1 := propext Iff.rfl
theorem zr1 {j : Int} : r1k [.int j] RI s = ((-(2 ^ 62) ≤ j ∧ j < 2 ^ 62) ∧ RI (rng 0 j.toNat) s) := propext Iff.rfl
theorem zR2 : iR2 ψ ⟨ρ, μ⟩ RI = ψ ⟨ρ, μ⟩ fun ds s1 => r2k ds RI s1 := propext Iff.rfl
theorem zr2 {i j : Int} : r2k [.int i, .int j] RI s = ((-(2 ^ 62) ≤ i ∧ i < 2 ^ 62 ∧ -(2 ^ 62) ≤ j ∧ j < 2 ^ 62) ∧ RI (rng i (j - i).toNat) s) := propext Iff.rfl
theorem zgN : gN i d ⟨ρ, μ⟩ RS = RS ⟨put ρ i (.d d), μ⟩ := propext Iff.rfl
theorem zAsg : sAsg φ γ Δ ⟨ρ, μ⟩ = φ ⟨ρ, μ⟩ fun r s1 => fz r s1 fun d s2 => γ d s2 Δ.nx := propext Iff.rfl
theorem zgT : gT n γs (.tup ds) ⟨ρ, μ⟩ RS = if ds.length = n then γs ds ⟨ρ, μ⟩ RS else False := propext Iff.rfl
theorem zgsC : gsCons γ γs (d :: ds) ⟨ρ, μ⟩ RS = γ d ⟨ρ, μ⟩ fun s1 => γs ds s1 RS := propext Iff.rfl
theorem zgsN : gsNil [] ⟨ρ, μ⟩ RS = RS ⟨ρ, μ⟩ := propext Iff.rfl
theorem zApp : sApp i φ Δ ⟨ρ, μ⟩ = appk0 (get ρ i) (φ ⟨ρ, μ⟩ fun r s1 => fz r s1 fun d s2 => appk (get s2.ρ i) i d s2 Δ.nx) := by
  unfold sApp
  cases get ρ i with
  | l ds =>
    show φ ⟨ρ, μ⟩ _ = φ ⟨ρ, μ⟩ _
    congr 1
    funext r s1
    congr 1
    funext d s2
    cases get s2.ρ i <;> rfl
  | _ => rfl
theorem zap0 {P : Prop} : appk0 (.l ds) P = P := propext Iff.rfl
theorem zap : appk (.l ds) i d ⟨ρ, μ⟩ RS = (ds.length < sizeLine ∧ RS ⟨put ρ i (.l (ds ++ [d])), μ⟩) := propext Iff.rfl
theorem forL_nil : forL γ Φ Δ [] s = Δ.nx s := propext Iff.rfl
theorem forL_cons : forL γ Φ Δ (d :: ds) ⟨ρ, μ⟩ = γ d ⟨ρ, μ⟩ fun s1 => Φ ⟨forL γ Φ Δ ds, Δ.rt, Δ.nx, forL γ Φ Δ ds⟩ s1 := propext Iff.rfl
theorem zLc {vs : List Nat} : eLc π vs γ τ φ ⟨ρ, μ⟩ R = π ⟨ρ, μ⟩ fun ds s1 => lcL vs s1 γ τ φ R ds [] (clr vs s1) := propext Iff.rfl
theorem zclr : clr [i] ⟨ρ, μ⟩ = ⟨put ρ i .no, μ⟩ := rfl
theorem zclr2 : clr [i, j] ⟨ρ, μ⟩ = ⟨put (put ρ i .no) j .no, μ⟩ := rfl
theorem zbck {s0 : S} : bck [i] s0 ⟨ρ, μ⟩ = ⟨put ρ i (keepD (get s0.ρ i)), μ⟩ := rfl
theorem zkeep_d : keepD (.d d) = .d d := rfl
theorem zkeep_n : keepD .no = .no := rfl
theorem lcL_nil {vs : List Nat} {s0 : S} {acc : List D} : lcL vs s0 γ τ φ R [] acc s = R (.l acc) (bck vs s0 s) := propext Iff.rfl
theorem lcL_cons {vs : List Nat} {s0 : S} {acc : List D} : lcL vs s0 γ τ φ R (d :: ds) acc ⟨ρ, μ⟩ = γ d ⟨ρ, μ⟩ fun s1 => τ s1 fun b s2 => if b = true then φ s2 fun r s3 => fz r s3 fun y s4 => acc.length < sizeLine ∧ lcL vs s0 γ τ φ R ds (acc ++ [y]) (clr vs s4) else lcL vs s0 γ τ φ R ds acc (clr vs s2) := propext Iff.rfl
end
def dpk0 : Sl → Prop → Prop
  | .k _ _, P => P
  | _, _ => False
def dpk : Sl → Nat → Key → D → S → (S → Prop) → Prop
  | .k ks ds, i, x, d, s, K => ks.length < sizeLine ∧ K (if dhas ks x = true then s.set i (.k ks (drep ks ds x d)) else s.set i (.k (ks ++ [x]) (ds ++ [d])))
  | _, _, _, _, _, _ => False
def kyk : D → (Key → Prop) → Prop
  | .int i, K => K (.inl i)
  | .str x, K => K (.inr x)
  | _, _ => False
section
variable {ρ : List Sl} {μ : Mu} {i : Nat} {φk φ : PhiE} {Δ : DE} {ks : List Key} {ds : List D} {d : D} {RS : S → Prop} {x : Str} {k : Key}
theorem zDP : sDPut i φk φ Δ ⟨ρ, μ⟩ = φ ⟨ρ, μ⟩ fun r s1 => fz r s1 fun d s2 => dpk0 (get s2.ρ i) (φk s2 fun rk s3 => lk rk s3 fun dk => kyk dk fun x => dpk (get s3.ρ i) i x d s3 Δ.nx) := by
  unfold sDPut
  show φ ⟨ρ, μ⟩ _ = φ ⟨ρ, μ⟩ _
  congr 1
  funext r s1
  congr 1
  funext d s2
  cases get s2.ρ i with
  | k ks ds =>
    show φk s2 _ = φk s2 _
    congr 1
    funext rk s3
    congr 1
    funext dk
    cases dk with
    | int j => show (match get s3.ρ i with | _ => _) = _; cases get s3.ρ i <;> rfl
    | str j => show (match get s3.ρ i with | _ => _) = _; cases get s3.ρ i <;> rfl
    | _ => rfl
  | _ => rfl
theorem zdp0 {P : Prop} : dpk0 (.k ks ds) P = P := propext Iff.rfl
theorem zdp : dpk (.k ks ds) i k d ⟨ρ, μ⟩ RS = (ks.length < sizeLine ∧ RS (if dhas ks k = true then ⟨put ρ i (.k ks (drep ks ds k d)), μ⟩ else ⟨put ρ i (.k (ks ++ [k]) (ds ++ [d])), μ⟩)) := propext Iff.rfl
theorem zky_i {j : Int} {K : Key → Prop} : kyk (.int j) K = K (.inl j) := propext Iff.rfl
theorem zky_s {K : Key → Prop} : kyk (.str x) K = K (.inr x) := propext Iff.rfl
end
end DL
/-! DL14: sorted of data. -/
namespace DL
open PySem PySem.Spec PyProof.Rows L2

def leD (a b : D) : Bool := !D.lt b a
/-- what sorted asks of a list -/
structure cSort (ds : List D) : Prop where
  ok : ∀ d ∈ ds, d.ok = true ∧ d.dep ≤ 50 ∧ d ≠ .non
  alike : ∀ d ∈ ds, ∀ e ∈ ds, D.alike d e = true
  kind : (∀ d ∈ ds, ∃ x r, d = .tup (x :: r)) ∨ ∀ d ∈ ds, ∀ xs, d ≠ .tup xs
def rSrt (K : PySem.W.Frag) : List V → Hp → VK → Prop := fun vs H Q => ∃ a, ∃ bs : List (V × D), vs = [.ref a] ∧ SqL K H a (bs.map (·.1)) ∧ (∀ b ∈ bs, Dp K H b.1 b.2.py) ∧ cSort (bs.map (·.2)) ∧
  ∀ p, H p = none → Q (.ref p) (upd H p (.lst ((bs.mergeSort fun x y => leD x.2 y.2).map (·.1))))
theorem each_vals : ∀ {bs : List (V × D)} {us : List Value}, Vals (bs.map (·.1)) us → PySem.W.EachIs (fun u (b : V × D) => RelV b.1 u) us bs
  | [], _, .nil => .nil
  | b :: bs, _, .cons r t => .cons r (each_vals t)
theorem vals_each : ∀ {bs : List (V × D)} {us : List Value}, PySem.W.EachIs (fun u (b : V × D) => RelV b.1 u) us bs → Vals (bs.map (·.1)) us
  | [], _, .nil => .nil
  | b :: bs, _, .cons r t => .cons r (vals_each t)
theorem each_and {α β : Type} {R S : α → β → Prop} : ∀ {us : List α} {bs : List β}, PySem.W.EachIs R us bs → (∀ u b, b ∈ bs → R u b → S u b) → PySem.W.EachIs S us bs
  | [], [], .nil, _ => .nil
  | u :: us, b :: bs, .cons r t, h => .cons (h u b (List.mem_cons_self ..) r) (each_and t fun u b hb hr => h u b (List.mem_cons_of_mem _ hb) hr)
theorem lt_py {x y : D} (hx : x.ok = true) (hy : y.ok = true) (ha : D.alike x y = true) (hn : x ≠ .non) : PySem.W.dataLt x.py y.py = D.lt x y := py_lt x y hx hy ha hn
theorem py_tup {xs : List D} {d : D} (o : d.ok = true) (h : ∀ xs, d ≠ .tup xs) (hn : d ≠ .non) : d.py ≠ .none ∧ ∀ xs, d.py ≠ .tuple xs := by
  refine ⟨py_non o hn, fun ys => ?_⟩
  cases d with
  | tup zs => exact absurd rfl (h zs)
  | non => exact absurd rfl hn
  | bl b => intro z; cases z
  | int b => intro z; cases z
  | str b => intro z; cases z
  | lst b => intro z; cases z
  | _ => cases o
theorem cr_srt {X : Cx} (hu : X.A.units + 64 < cLine) : CallR X (.builtin "sorted") (rSrt X.K) := by
  intro pins s σ H vs us Q I r h
  obtain ⟨a, bs, rfl, hs, hd, c, q⟩ := h
  obtain ⟨its, rv, hl, hz⟩ := I.list hs
  rw [Vals.ref1 r]
  have er := each_vals rv
  have er2 : PySem.W.EachIs (fun v (b : V × D) => ∃ as, Reads s.heap v b.2.py as) its bs := each_and er fun u b hb hr => Dp.reads I b.2.py b.1 u (hd b hb) hr
  have mem : ∀ b ∈ bs, b.2 ∈ bs.map (·.2) := fun b hb => List.mem_map.mpr ⟨b, hb, rfl⟩
  have hal : PySem.W.AllAlike (bs.map fun b => b.2.py) := by
    intro d hd d' hd'
    obtain ⟨b, hb, rfl⟩ := List.mem_map.mp hd
    obtain ⟨b', hb', rfl⟩ := List.mem_map.mp hd'
    exact py_alike _ _ (c.alike _ (mem b hb) _ (mem b' hb'))
  have hk : PySem.W.Sortable (bs.map fun b => b.2.py) := by
    rcases c.kind with k | k
    · refine .inl fun d hd => ?_
      obtain ⟨b, hb, rfl⟩ := List.mem_map.mp hd
      obtain ⟨x, r, e⟩ := k _ (mem b hb)
      exact ⟨x.py, D.pys r, by rw [e]; rfl⟩
    · refine .inr fun d hd => ?_
      obtain ⟨b, hb, rfl⟩ := List.mem_map.mp hd
      obtain ⟨o, _, n⟩ := c.ok _ (mem b hb)
      exact py_tup (xs := []) o (k _ (mem b hb)) n
  have hlen : bs.length ≤ sizeLine := by rw [List.length_map] at hz; exact hz
  have e1 : bs.mergeSort (PySem.W.dataLe false fun b : V × D => b.2.py) = bs.mergeSort fun x y => leD x.2 y.2 := by
    have := List.map_mergeSort (r := PySem.W.dataLe false fun b : V × D => b.2.py) (s := fun x y : V × D => leD x.2 y.2) (f := id) (l := bs) fun x hx y hy => by
      rw [PySem.W.dataLe_eq]
      show (!PySem.W.dataLt y.2.py x.2.py) = (!D.lt y.2 x.2)
      rw [lt_py (c.ok _ (mem y hy)).1 (c.ok _ (mem x hx)).1 (c.alike _ (mem y hy) _ (mem x hx)) (c.ok _ (mem y hy)).2.2]
    rw [List.map_id, List.map_id] at this
    exact this
  refine PySem.W.sorted_data (enc := fun b : V × D => b.2.py) hl.isList er er2 hal hk hlen (fun b hb => ?_) fun out ho eo => ?_
  · have := py_dep b.2
    have := (c.ok _ (mem b hb)).2.1
    omega
  · rw [e1] at eo
    obtain ⟨ep, he'⟩ := PyProof.Rows.sortedAll_at s.heap its out.toArray
    refine ⟨.ref _, upd H (s.heap.objs.size + 1) (.lst ((bs.mergeSort fun x y => leD x.2 y.2).map (·.1))), I.laid (t' := s.toks) (fun _ _ => PyProof.Rows.sortedAll_old) (Nat.le_succ _) ⟨?_, out, ep, vals_each eo, he'⟩, rfl, q _ (I.hok.fresh (Nat.le_succ _))⟩
    rw [List.length_map, (List.mergeSort_perm _ _).length_eq]
    exact hlen
def oSorted : O1 := fun x R => match x with
  | .lst ds => cSort ds ∧ R (.l (ds.mergeSort leD))
  | _ => False
section
variable {K : PySem.W.Frag}
theorem DVs.pairs {G : Hp} : ∀ {ds : List D} {xs : List V}, DVs K G ds xs → ∃ bs : List (V × D), bs.map (·.1) = xs ∧ bs.map (·.2) = ds ∧ ∀ b ∈ bs, DV K G b.2 b.1
  | [], _, h => ⟨[], by cases (show _ = [] from h); rfl, rfl, fun b hb => by cases hb⟩
  | d :: ds, _, ⟨x, r, e, h1, h2⟩ => by
    obtain ⟨bs, e1, e2, e3⟩ := DVs.pairs h2
    refine ⟨(x, d) :: bs, by rw [e, ← e1]; rfl, by rw [← e2]; rfl, fun b hb => ?_⟩
    rcases List.mem_cons.mp hb with rfl | hb
    · exact h1
    · exact e3 b hb
theorem DVs.ofPairs {G : Hp} : ∀ {bs : List (V × D)}, (∀ b ∈ bs, DV K G b.2 b.1) → DVs K G (bs.map (·.2)) (bs.map (·.1))
  | [], _ => rfl
  | b :: bs, h => ⟨_, _, rfl, h b (List.mem_cons_self ..), DVs.ofPairs fun c hc => h c (List.mem_cons_of_mem _ hc)⟩
theorem cs_srt : Call1S K (rSrt K) oSorted := fun G U H μ x d R Q b l h k => by
  cases d with
  | lst ds =>
    obtain ⟨a, xs, rfl, h1, h2⟩ := l.lst b
    obtain ⟨bs, rfl, rfl, e3⟩ := h2.pairs
    obtain ⟨c, h⟩ := h
    refine ⟨a, bs, rfl, h1, fun p hp => dp_same b.sub (dv_dp (c.ok _ (List.mem_map.mpr ⟨p, hp, rfl⟩)).1 (e3 p hp)), c, fun p hp => ?_⟩
    have e : (bs.map (·.2)).mergeSort leD = (bs.mergeSort fun x y => leD x.2 y.2).map (·.2) := (List.map_mergeSort (r := fun x y : V × D => leD x.2 y.2) (s := leD) (f := fun x : V × D => x.2) (l := bs) fun _ _ _ _ => rfl).symm
    rw [e] at h
    exact k.lst b (DVs.ofPairs fun p hp => e3 p ((List.mergeSort_perm _ _).mem_iff.mp hp)) h hp
  | _ => exact h.elim
end
section
variable {R : Sl → Prop} {xs : List D} {b c : Bool} {x y : Str}
theorem xSorted : oSorted (.lst xs) R = (cSort xs ∧ R (.l (xs.mergeSort leD))) := propext Iff.rfl
theorem xNe_bb : oNe (.bl b) (.bl c) R = R (.d (.bl (!(b == c)))) := by show (True ∧ _) = _; rw [true_and]; rfl
theorem xAll {bs : List Bool} (h : asBls xs = some bs) : oAll (.lst xs) R = R (.d (.bl (bs.all id))) := by
  show (match asBls xs with
    | some bs => R (.d (.bl (bs.all id)))
    | none => False) = _
  rw [h]
end
end DL
/-! DL15: a set of texts, made of a list of them, and sorted. -/
namespace DL
open PySem PySem.Spec PyProof.Rows L2

def kS (e : Int × Value) : Str := match e.2 with
  | .str x _ => x
  | _ => Str.empty
def GdS (w : World) (e : Int × Value) : Prop := ∃ (x : Str) (tk : Tok), e.2 = Value.str x tk ∧ e.1 = hashStr w x
/-- the set of the texts xs, at a -/
structure TxtAt (w : World) (h : Heap) (a : Addr) (xs : List Str) (o : Obj) (es : Array (Int × Value)) (ep : Nat) (t : SetTable) : Prop where
  at_ : h.get? a = some o
  ex : o.ExactSet
  dat : o.data = .set es ep t
  gd : ∀ e ∈ es.toList, GdS w e
  nd : (es.toList.map kS).Nodup
  mem : ∀ x, x ∈ es.toList.map kS ↔ x ∈ xs
  few : es.size ≤ xs.length
  fit : t.fits es.size = true
  ris : L2.Ris t.place.toList
  led : w.params.followText "set-order" = true ∨ t.led = true
def TxtSet (w : World) (h : Heap) (a : Addr) (xs : List Str) : Prop := ∃ o es ep t, TxtAt w h a xs o es ep t
section
variable {P : Program} {w : World} {A : Around} {E : Value → Shared → Prop} {s : Shared} {a : Addr} {xs : List Str} {o : Obj} {es : Array (Int × Value)} {ep : Nat} {t : SetTable}
theorem TxtSet.keep {h h' : Heap} (T : TxtSet w h a xs) (k : ∀ o, h.get? a = some o → h'.get? a = some o) : TxtSet w h' a xs := by
  obtain ⟨o, es, ep, t, q⟩ := T
  exact ⟨o, es, ep, t, { q with at_ := k o q.at_ }⟩
theorem gds_is {e : Int × Value} (g : GdS w e) (x : Str) : (PySem.strKind P w).is x e.2 = true ↔ kS e = x := by
  obtain ⟨y, tk, q, _⟩ := g
  unfold kS
  rw [q]
  show Value.isStrOf x (Value.str y tk) = true ↔ y = x
  constructor
  · intro z
    obtain ⟨u, hu⟩ := Value.isStrOf_shape z
    injection hu
  · rintro rfl
    exact strKind_is P w y tk
theorem gds_elems {l : List (Int × Value)} (g : ∀ e ∈ l, GdS w e) : ElemsOf (PySem.strKind P w) l := fun e he => by
  obtain ⟨y, tk, q1, q2⟩ := g e he
  exact ⟨⟨y, by rw [q1]; exact strKind_is P w y tk, q2⟩, by rw [q1]; rfl⟩
theorem gds_mem {l : List (Int × Value)} (g : ∀ e ∈ l, GdS w e) (x : Str) : x ∈ l.map kS ↔ ∃ e ∈ l, (PySem.strKind P w).is x e.2 = true := by
  rw [List.mem_map]
  exact ⟨fun ⟨e, he, q⟩ => ⟨e, he, (gds_is (g e he) x).2 q⟩, fun ⟨e, he, q⟩ => ⟨e, he, (gds_is (g e he) x).1 q⟩⟩
/-- the entries are laid anew, or not -/
theorem txt_tail {g : Bool → Sem Unit} (hg : ∀ (b : Bool) (s1 : Shared) (Z : Unit → Shared → Prop), Z () s1 → wpAny (model P w) A (g b) Z E s1) {ys : List Str} (q : TxtAt w s.heap a xs o es ep t)
    {fs : Array (Int × Value)} {u : SetTable} (h1 : ∀ e ∈ fs.toList, GdS w e) (h2 : (fs.toList.map kS).Nodup) (h3 : ∀ x, x ∈ fs.toList.map kS ↔ x ∈ ys) (h4 : fs.size ≤ ys.length) (hy : ys.length < scanBound)
    (h5 : u.fits fs.size = true) (h6 : L2.Ris u.place.toList) (h7 : w.params.followText "set-order" = true ∨ u.led = true) {was : Bool} {Z : Option Bool → Shared → Prop}
    (fin : ∀ h', Heap.SameBut a s.heap h' → TxtSet w h' a ys → Z (some true) { s with heap := h' }) :
    wpAny (model P w) A (do
        storeSet a fs u
        if (!was && u.tooFull) = true then do
            g (relayAll u fs (SetTable.grown fs.size)).2.2
            storeSet a (relayAll u fs (SetTable.grown fs.size)).1 (relayAll u fs (SetTable.grown fs.size)).2.1
            pure (some true)
          else pure (some true)) Z E s := by
  have hb : fs.size < scanBound := Nat.lt_of_le_of_lt h4 hy
  refine wpAny_bind (wpAny_storeSet_of q.at_ q.dat ?_ (fits_of_scanBound hb))
  have a1 := L2.store_at (es' := fs) (t' := u) q.at_ q.dat
  have k1 := Heap.SameBut.update s.heap a (Obj.putSet fs u)
  split
  · have r1 := relayAll_perm u fs (SetTable.grown fs.size)
    have r2 := relayAll_fits u fs (SetTable.grown fs.size)
    have r3 := L2.relayAll_ris u fs (SetTable.grown fs.size)
    have r4 := L2.relayAll_led u fs (SetTable.grown fs.size)
    generalize relayAll u fs (SetTable.grown fs.size) = Y at r1 r2 r3 r4 ⊢
    obtain ⟨gs, v, gv⟩ := Y
    dsimp only at r1 r2 r3 r4 ⊢
    have hz : gs.size = fs.size := by rw [← Array.length_toList, r1.length_eq, Array.length_toList]
    refine wpAny_bind (hg _ _ _ ?_)
    refine wpAny_bind (wpAny_storeSet_of a1 rfl ?_ (fits_of_scanBound (by rw [hz]; exact hb)))
    have a2 := L2.store_at (es' := gs) (t' := v) a1 rfl
    refine wpAny_pure (fin _ (k1.trans (Heap.SameBut.update _ a _)) ⟨_, gs, _, v, a2, q.ex, rfl, ?_, ?_, ?_, by rw [hz]; exact h4, r2, r3, h7.imp id fun z => by rw [r4]; exact z⟩)
    · exact fun e he => h1 e (r1.mem_iff.mp he)
    · exact (r1.map kS).nodup_iff.mpr h2
    · exact fun x => (r1.map kS).mem_iff.trans (h3 x)
  · exact wpAny_pure (fin _ k1 ⟨_, fs, _, u, a1, q.ex, rfl, h1, h2, h3, h4, h5, h6, h7⟩)
theorem txt_add {x : Str} {tk : Tok} {Q : Bool → Shared → Prop} (T : TxtSet w s.heap a xs) (room : xs.length + 1 < scanBound)
    (hQ : ∀ b h', Heap.SameBut a s.heap h' → TxtSet w h' a (xs ++ [x]) → Q b { s with heap := h' }) : wpAny (model P w) A (setAddHashed a (.str x tk) ((PySem.strKind P w).hash x)) Q E s := by
  obtain ⟨o, es, ep, t, q⟩ := T
  have key : (PySem.strKind P w).is x (.str x tk) = true := strKind_is P w x tk
  have sc : (Value.str x tk).scannable = true := rfl
  have el := gds_elems (P := P) q.gd
  have hes : es.size < scanBound := Nat.lt_of_le_of_lt q.few (by omega)
  have len1 : (xs ++ [x]).length = xs.length + 1 := by simp
  unfold setAddHashed setAddHashedIn
  refine wpAny_holding (wpAny_bind (wpAny_setState_of q.at_ q.dat q.fit ?_))
  dsimp only
  rw [byScan_of sc hes el]
  simp only [↓reduceIte]
  unfold setAddByScan
  refine wpAny_bind (wpAny_bind (wpAny_rule ?_))
  refine wpAny_bind (wpAny_setScan_of key q.at_ q.dat q.fit el ?_)
  cases hf : List.findIdx? (fun e => (PySem.strKind P w).is x e.2) es.toList with
  | some j =>
    dsimp only
    obtain ⟨hj, pj, _⟩ := List.findIdx?_eq_some_iff_getElem.mp hf
    have hx : x ∈ xs := (q.mem x).1 ((gds_mem (P := P) q.gd x).2 ⟨es.toList[j], List.getElem_mem hj, pj⟩)
    refine wpAny_pure (wpAny_pure (hQ _ s.heap (Heap.SameBut.refl a s.heap) ⟨o, es, ep, t, { q with mem := fun y => (q.mem y).trans ?_, few := by rw [len1]; have := q.few; omega }⟩))
    rw [List.mem_append, List.mem_singleton]
    exact ⟨.inl, fun z => z.elim id fun e => by rw [e]; exact hx⟩
  | none =>
    dsimp only
    have hx : x ∉ es.toList.map kS := fun z => by
      obtain ⟨e, he, q1⟩ := (gds_mem (P := P) q.gd x).1 z
      have := List.findIdx?_eq_none_iff.mp hf e he
      rw [q1] at this
      cases this
    have gw : ∀ (b : Bool) {s1 : Shared} {Z : Unit → Shared → Prop}, Z () s1 → wpAny (model P w) A (match b with | true => rule "set.scan.the-table-gave-way" | false => pure ()) Z E s1 := fun b s1 Z z => by
      cases b
      · exact wpAny_pure z
      · exact wpAny_rule z
    have m1 := layNew_perm t es ((PySem.strKind P w).hash x) (.str x tk)
    have m2 := layNew_fits t es ((PySem.strKind P w).hash x) (.str x tk)
    have m3 := L2.layNew_ris t es ((PySem.strKind P w).hash x) (.str x tk) q.ris
    have m4 := L2.layNew_led t es ((PySem.strKind P w).hash x) (.str x tk)
    generalize layNew t es ((PySem.strKind P w).hash x) (.str x tk) = Y at m1 m2 m3 m4 ⊢
    obtain ⟨fs, u, was, gv⟩ := Y
    dsimp only at m1 m2 m3 m4 ⊢
    rw [Array.toList_push] at m1
    have pc : fs.toList.Perm (((PySem.strKind P w).hash x, Value.str x tk) :: es.toList) := m1.trans (List.perm_append_singleton _ _)
    have pk : (fs.toList.map kS).Perm (x :: es.toList.map kS) := pc.map kS
    have n1 : ∀ e ∈ fs.toList, GdS w e := fun e he => by
      rcases List.mem_cons.mp (pc.mem_iff.mp he) with z | z
      · exact z ▸ ⟨x, tk, rfl, rfl⟩
      · exact q.gd e z
    have n2 : (fs.toList.map kS).Nodup := pk.nodup_iff.mpr (List.nodup_cons.mpr ⟨hx, q.nd⟩)
    have n3 : ∀ y, y ∈ fs.toList.map kS ↔ y ∈ xs ++ [x] := fun y => by
      rw [pk.mem_iff, List.mem_cons, q.mem y, List.mem_append, List.mem_singleton]
      exact Or.comm
    have n4 : fs.size ≤ (xs ++ [x]).length := by
      have e : fs.size = es.size + 1 := by rw [← Array.length_toList, pc.length_eq, List.length_cons, Array.length_toList]
      rw [e, len1]
      exact Nat.succ_le_succ q.few
    have n5 : (xs ++ [x]).length < scanBound := by rw [len1]; exact room
    have n6 : w.params.followText "set-order" = true ∨ u.led = true := q.led.imp id fun z => by rw [m4]; exact z
    refine wpAny_bind (gw _ ?_)
    split
    · refine wpAny_bind ?_
      rw [hashByValue_scannable 8 sc]
      refine wpAny_pure (txt_tail ?_ q n1 n2 n3 n4 n5 ?_ ?_ ?_ ?_)
      · intro b s1 Z z
        cases b
        · exact wpAny_pure z
        · exact wpAny_rule z
      · split
        · exact m2
        · exact SetTable.fits_plain_off m2
      · split
        · exact m3
        · exact m3
      · split
        · exact n6
        · exact n6
      · intro h' sb r
        dsimp only
        exact wpAny_pure (hQ _ h' sb r)
    · refine wpAny_bind (wpAny_pure ?_)
      simp only [↓reduceIte]
      refine txt_tail ?_ q n1 n2 n3 n4 n5 m2 m3 n6 ?_
      · intro b s1 Z z
        cases b
        · exact wpAny_pure z
        · exact wpAny_rule z
      · intro h' sb r
        dsimp only
        exact wpAny_pure (hQ _ h' sb r)
end
end DL
namespace DL
open PySem PySem.Spec PyProof.Rows L2
section
variable {P : Program} {w : World} {A : Around} {R : Result → Shared → Prop} {I : Addr} {fp wr : List Addr} {G : Array GenState → Array GenState → Prop} {n : Nat} {Pv : Nat → Value → Prop} {St : Nat → Shared → Prop}
/-- the members come one by one -/
theorem txt_loop (W : WalksS P w A.in1 I fp wr G n Pv St) (a : Addr) (ha : a ∉ fp) (xs : List Str) (hn : xs.length = n) (hb : n + 1 < scanBound) (hv : ∀ i v, Pv i v → ∃ t, v = .str (xs.getD i Str.empty) t) :
    ∀ (k i : Nat) (s : Shared), n - i = k → i ≤ n → St i s → TxtSet w s.heap a (xs.take i) → (∀ s', Moved (a :: wr) G s s' → TxtSet w s'.heap a xs → R (.ok (.ret .none)) s') →
      codeAny (model P w) A (.builtin "set.update.loop" ⟨[.ref a, .ref I], []⟩) R s := by
  have aw : a ∉ wr := fun h => ha (W.sub _ h)
  have sub : ∀ b ∈ wr, b ∈ a :: wr := fun b z => List.mem_cons_of_mem _ z
  intro k
  induction k with
  | zero =>
    intro i s hk hi st T fin
    have e : i = xs.length := by omega
    refine codeAny_builtin PyProof.Rows.F.entry_set_update_loop ?_
    rw [Around.under_plainId PyProof.Rows.F.plain_set_update_loop _]
    show wpAny _ A.in1 (pyNext (.ref I) >>= _) _ _ s
    have e2 : i = n := by omega
    subst e2
    refine wpAny_bind (W.done s _ _ st fun s' mv => ?_)
    show wpAny _ A.in1 (ret Value.none) _ _ s'
    rw [e, List.take_length] at T
    exact wpAny_pure (fin s' (mv.mono sub) (T.keep fun o q => mv.heap a o aw q))
  | succ k ih =>
    intro i s hk hi st T fin
    have lt : i < n := by omega
    refine codeAny_builtin PyProof.Rows.F.entry_set_update_loop ?_
    rw [Around.under_plainId PyProof.Rows.F.plain_set_update_loop _]
    show wpAny _ A.in1 (pyNext (.ref I) >>= _) _ _ s
    refine wpAny_bind (W.item i s _ _ lt st fun v s' hP st' mv => ?_)
    obtain ⟨tk, rfl⟩ := hv i v hP
    have T' : TxtSet w s'.heap a (xs.take i) := T.keep fun o q => mv.heap a o aw q
    show wpAny _ A.in1 (holding [Value.str (xs.getD i Str.empty) tk] (setAdd a (.str (xs.getD i Str.empty) tk)) >>= _) _ _ s'
    refine wpAny_bind (wpAny_holding ?_)
    unfold setAdd
    refine wpAny_holding (wpAny_bind ((PySem.strKind P w).pyHash (k := xs.getD i Str.empty) (strKind_is _ _ _ _) ?_))
    refine txt_add (s := { s' with toks := s'.toks + 1 }) T' (by rw [List.length_take]; omega) fun _ h' sb T2 => ?_
    have e3 : xs.take i ++ [xs.getD i Str.empty] = xs.take (i + 1) := by
      rw [List.take_succ, List.getD_eq_getElem?_getD]
      have : i < xs.length := by omega
      rw [List.getElem?_eq_getElem this]
      rfl
    rw [e3] at T2
    refine wpAny_pure ⟨plainId_quiet PyProof.Rows.F.plain_set_update_loop _, ih (i + 1) _ (by omega) lt (W.frame _ s' _ _ st' (Nat.le_succ _) fun b hb o q => ?_) T2 fun s2 mv2 T3 => ?_⟩
    · exact (sb.2 b fun z => ha (z ▸ hb)).trans q
    · refine fin s2 (Moved.trans W.gtrans ((mv.mono sub).then_heap (Nat.le_succ _) fun b o hb q => ?_) mv2) T3
      exact (sb.2 b fun z => hb (z ▸ List.mem_cons_self)).trans q
end
end DL
namespace DL
open PySem PySem.Spec PyProof.Rows L2
section
variable {P : Program} {w : World} {A : Around} {E : Value → Shared → Prop} {s : Shared}
theorem txt_new1 (arg : Value) {Z : Value → Shared → Prop}
    (h : Z (.ref s.heap.objs.size) { s with heap := s.heap.push { cls := .type "set", dict := none, data := .set #[] 0 (.fresh 0 0 (!w.params.followText "set-order")) } }) : codeAny (model P w) A (.call (.builtin "set.__new__") ⟨[.type "set", arg], []⟩) (wants Z E) s := by
  refine codeAny_of_tree ?_
  show wpAny _ A.in1 (do checkBuiltinCall "set.__new__" ⟨[.type "set", arg], []⟩; again (.builtin "set.__new__" ⟨[.type "set", arg], []⟩)) _ _ s
  refine wpAny_bind (wpAny_of_eq (PySem.F.newCall_set_1 arg) (wpAny_pure ⟨plainId_quiet PySem.F.plain_set_new _, codeAny_builtin PySem.F.entry_set_new ?_⟩))
  rw [Around.under_plainId PySem.F.plain_set_new _]
  unfold Builtin.«set.__new__» Builtin.Frozenset.newClass
  have hsub := sub_set_self
  obtain ⟨hp, g, d, tk, os⟩ := s
  dsimp only
  wp_walk
  refine wpAny_askSetting (wpAny_pure ?_)
  dsimp only
  simp only [newObj]
  exact wpAny_bind (wpAny_alloc (wpAny_pure (wpAny_pure h)))
theorem txt_fresh {h : Heap} (w : World) : TxtSet w (h.push { cls := .type "set", dict := none, data := .set #[] 0 (.fresh 0 0 (!w.params.followText "set-order")) }) h.objs.size [] := by
  refine ⟨_, #[], 0, _, Heap.get?_push_size _ rfl, ⟨rfl, rfl, rfl⟩, rfl, (fun e he => by simp at he), by simp, (fun k => by simp), Nat.zero_le _, by rfl, List.Pairwise.nil, ?_⟩
  show _ ∨ (!w.params.followText "set-order") = true
  cases w.params.followText "set-order"
  · exact .inr rfl
  · exact .inl rfl
/-- what a set call leaves: the set of the texts at the next place -/
def TxtMade (w : World) (s : Shared) (xs : List Str) (s' : Shared) : Prop := ∃ h' tk, s' = { s with heap := h', toks := tk } ∧ TxtSet w h' s.heap.objs.size xs ∧ ∀ b o, b < s.heap.objs.size → s.heap.get? b = some o → h'.get? b = some o
set_option maxHeartbeats 3200000 in
theorem txt_call_list {l : Addr} {items : Array Value} {xs : List Str} {Q : Value → Shared → Prop} (hh : A.handled = none) (hl : s.heap.IsList l items) (hi : StrsAre items.toList xs) (hb : xs.length + 1 < scanBound)
    (h : ∀ s', TxtMade w s xs s' → Q (.ref s.heap.objs.size) s') : wpAny (model P w) A (call (.type "set") [.ref l]) Q E s := by
  obtain ⟨c, tl, hmro⟩ := PySem.F.called_set.mro
  have hmade := PySem.F.called_set.made
  have hsub := PySem.F.called_set.sub
  refine wpAny_call (codeAny_of_tree ?_)
  show wpAny _ _ (callAny (.type "set") _) _ _ _
  refine wpAny_pure ⟨Code.quiet_builtin _ (by decide +kernel), codeAny_builtin PySem.F.entry_type_call ?_⟩
  rw [Around.under_plain (weight_type_call_type "set" [.ref l] []) rfl]
  have h1 := PySem.F.called_set.notType
  have h2 := PySem.F.called_set.canCreate
  have hct := PySem.F.typeCall_set_1 (.ref l)
  repeat (any_goals (first | assumption | wp_step))
  refine codeAny_mono (txt_new1 (.ref l) (E := E) (Z := fun obj s1 => obj = .ref s.heap.objs.size ∧ s1 = { s with heap := s.heap.push ({ cls := .type "set", dict := none, data := .set #[] 0 (.fresh 0 0 (!w.params.followText "set-order")) } : Obj) }) ⟨rfl, rfl⟩) fun r s1 hr => ?_
  cases r with
  | error e => exact hr
  | ok fl =>
    cases fl with
    | ret obj =>
      obtain ⟨rfl, rfl⟩ := hr
      have hS : (s.heap.push ({ cls := .type "set", dict := none, data := .set #[] 0 (.fresh 0 0 (!w.params.followText "set-order")) } : Obj)).get? s.heap.objs.size = some ({ cls := .type "set", dict := none, data := .set #[] 0 (.fresh 0 0 (!w.params.followText "set-order")) } : Obj) := Heap.get?_push_size _ rfl
      have hT : Shared.TypeIs { s with heap := s.heap.push ({ cls := .type "set", dict := none, data := .set #[] 0 (.fresh 0 0 (!w.params.followText "set-order")) } : Obj) } (.ref s.heap.objs.size) "set" := ⟨_, hS, rfl⟩
      have hli := PySem.F.called_set.init.lookup
      have hbi := PySem.F.called_set.init.bind (.ref s.heap.objs.size)
      repeat (any_goals (first | assumption | wp_step))
      refine codeAny_mono (codeAny_call_builtin (R := wants (fun r s2 => r = .none ∧ TxtMade w s xs s2) E) PySem.F.called_set.init.plain PySem.F.entry_set_init (check_set_init_1 hT ?_)) fun r2 s2 hr2 => ?_
      · obtain ⟨ol, hol, hcl, nl, hdl⟩ := hl
        obtain ⟨ocls, odict, odata, oslots⟩ := ol
        simp only at hcl hdl
        subst hcl; subst hdl
        have hol' : (s.heap.push ({ cls := .type "set", dict := none, data := .set #[] 0 (.fresh 0 0 (!w.params.followText "set-order")) } : Obj)).get? l = some { cls := .type "list", dict := odict, data := .seq items nl, slots := oslots } := Heap.get?_push_of_some _ hol
        have hsls := PySem.F.sub_list_set
        have hslf := PySem.F.sub_list_frozenset
        have hne : (Value.type "list" == Value.type "dict") = false := by decide
        have hl1 : (s.heap.push ({ cls := .type "set", dict := none, data := .set #[] 0 (.fresh 0 0 (!w.params.followText "set-order")) } : Obj)).IsList l items := ⟨_, hol', rfl, nl, rfl⟩
        unfold Builtin.«set.__init__» noKeywords Builtin.Frozenset.updateFrom
        generalize hPI : pyIter = PI
        wp_walk
        subst hPI
        refine wpAny_pyIter_list hl1 ?_
        refine wpAny_bind (wpAny_runValue ?_)
        have lS : l < s.heap.objs.size := Heap.lt_size hol
        have hh3 : A.in1.in1.in1.handled = none := by simp [hh]
        have neI : l ≠ (s.heap.push ({ cls := .type "set", dict := none, data := .set #[] 0 (.fresh 0 0 (!w.params.followText "set-order")) } : Obj)).objs.size := by
          rw [Heap.size_push]
          exact Nat.ne_of_lt (Nat.lt_succ_of_lt lS)
        have out : s.heap.objs.size ∉ [(s.heap.push ({ cls := .type "set", dict := none, data := .set #[] 0 (.fresh 0 0 (!w.params.followText "set-order")) } : Obj)).objs.size, l] := by
          rw [Heap.size_push]
          simp only [List.mem_cons, List.not_mem_nil, or_false, not_or]
          exact ⟨Nat.ne_of_lt (Nat.lt_succ_self _), Nat.ne_of_gt lS⟩
        have sz : xs.length = items.size := by rw [← StrsAre.len_eq hi, Array.length_toList]
        refine txt_loop ((Walks.list hh3 _ l neI items).toS) s.heap.objs.size out xs sz (by rw [← sz]; exact hb) (fun i v hv => SS.strs_at hi i v (by rw [Array.getElem?_toList]; exact hv)) (items.size - 0) 0 _ (by omega) (Nat.zero_le _)
          ⟨⟨_, Heap.get?_push_size _ rfl, rfl, rfl⟩, (hl1.push _)⟩ ?_ fun s' mv T => ?_
        · rw [List.take_zero]
          exact (txt_fresh w).keep fun o q => Heap.get?_push_of_some _ q
        · obtain ⟨h', g', d', tk', os'⟩ := s'
          have eg : g' = s.gens := mv.gens
          have ed : d' = s.drawn := mv.drawn
          have eo : os' = s.os := mv.os
          subst eg; subst ed; subst eo
          show wpAny _ _ _ _ _ _
          refine wpAny_pure ?_
          show wpAny _ _ (ret Value.none) _ _ _
          refine wpAny_pure ⟨rfl, h', tk', rfl, T, fun b o b1 e => mv.heap b o ?_ (Heap.get?_push_of_some _ (Heap.get?_push_of_some _ e))⟩
          rw [Heap.size_push]
          simp only [List.mem_cons, List.not_mem_nil, or_false, not_or]
          exact ⟨Nat.ne_of_lt b1, Nat.ne_of_lt (Nat.lt_succ_of_lt b1)⟩
      · cases r2 with
        | error e => exact hr2
        | ok fl2 =>
          cases fl2 with
          | ret r =>
            obtain ⟨rfl, h', tk, rfl, k1, k2⟩ := hr2
            repeat (any_goals (first | assumption | wp_step))
            exact h _ ⟨h', _, rfl, k1, k2⟩
          | _ => exact hr2.elim
    | _ => exact hr.elim
end
end DL
/-! DL16: sorted of a set of texts. -/
namespace DL
open PySem PySem.Spec PyProof.Rows L2
def sv (v : Value) : Str := match v with
  | .str x _ => x
  | _ => Str.empty
def slt (x y : Str) : Bool := decide (x.cps.toList < y.cps.toList)
theorem strs_each : ∀ {vs : List Value}, (∀ v ∈ vs, ∃ x t, v = Value.str x t) → PySem.W.EachIs (fun v (x : Str) => ∃ t, v = Value.str x t) vs (vs.map sv)
  | [], _ => .nil
  | v :: vs, h => by
    obtain ⟨x, t, e⟩ := h v (List.mem_cons_self ..)
    refine .cons ⟨t, ?_⟩ (strs_each fun u hu => h u (List.mem_cons_of_mem _ hu))
    rw [e]
    rfl
theorem each_of {h : Heap} {a : Addr} : ∀ {vs : List Value} {xs : List Str}, PySem.W.EachIs (fun v (x : Str) => ∃ t, v = Value.str x t) vs xs → PySem.W.EachIs (fun v (x : Str) => ∃ as, Reads h v (PyData.str x) as ∧ a ∉ as) vs xs
  | [], [], .nil => .nil
  | v :: vs, x :: xs, .cons ⟨t, e⟩ r => by subst e; exact .cons ⟨[], .str x t, by simp⟩ (each_of r)
theorem each_strs : ∀ {vs : List Value} {xs : List Str}, PySem.W.EachIs (fun v (x : Str) => ∃ t, v = Value.str x t) vs xs → StrsAre vs xs
  | [], [], .nil => .nil
  | v :: vs, x :: xs, .cons ⟨t, e⟩ r => by subst e; exact .cons x t (each_strs r)
section
variable {P : Program} {w : World} {A : Around} {E : Value → Shared → Prop} {s : Shared} {a : Addr} {xs : List Str}
theorem txt_sorted {Q : Value → Shared → Prop} (T : TxtSet w s.heap a xs) (hh : A.handled = none) (hb : xs.length < scanBound) (hu : A.units + 64 < cLine)
    (h : ∀ s' p (out : List Value) (zs : List Str) (c : Nat), (∀ b o, s.heap.get? b = some o → s'.heap.get? b = some o) → s'.gens = s.gens → s'.os = s.os → s.heap.objs.size ≤ p → s'.heap.get? p = some (seqObj "list" out.toArray c) →
      StrsAre out zs → (∃ ys : List Str, ys.Nodup ∧ (∀ x, x ∈ ys ↔ x ∈ xs) ∧ ys.length ≤ xs.length ∧ zs = ys.mergeSort (fun x y => !slt y x)) → Q (.ref p) s') : wpAny (model P w) A (call (.builtin "sorted") [.ref a]) Q E s := by
  obtain ⟨o, es, ep, t, q⟩ := T
  have hes : es.size < scanBound := Nat.lt_of_le_of_lt q.few hb
  refine Calls.call_function_entry kind_sorted plain_sorted entry_sorted (args_sorted1 _) ?_
  unfold Builtin.«sorted»
  refine wpAny_bind (m := checkCount "sorted" 1 1 _) (wpAny_pure ?_)
  refine wpAny_bind (L2.collect_set (A := A.in1) hh ⟨o, q.at_, q.ex.1, q.dat⟩ q.fit hes q.ris q.led fun s1 vs k1 hz g1 o1 pm => ?_)
  have isv : ∀ v ∈ vs, ∃ x t, v = Value.str x t := fun v hv => by
    obtain ⟨e, he, z⟩ := List.mem_map.mp (pm.mem_iff.mp hv)
    obtain ⟨x, tk, h1, _⟩ := q.gd e he
    exact ⟨x, tk, by rw [← z]; exact h1⟩
  have pk : (vs.map sv).Perm (es.toList.map kS) := by
    have z := pm.map sv
    rw [List.map_map] at z
    exact z
  have hlen : vs.length ≤ sizeLine := by
    rw [pm.length_eq, List.length_map, Array.length_toList]
    exact fits_of_scanBound hes
  refine wpAny_bind (wpAny_newList ?_ hlen)
  have hoL : (s1.heap.push (seqObj "list" vs.toArray 0)).get? s1.heap.objs.size = some (seqObj "list" vs.toArray 0) := Heap.get?_push_size _ rfl
  refine wpAny_bind (wpAny_holding ?_)
  have ev := strs_each isv
  refine PySem.W.list_sort_data (enc := fun x : Str => PyData.str x) (bs := vs.map sv) hoL ev (each_of ev) ?_ ?_ (by rw [List.length_map]; exact hlen) (fun b hb => ?_) fun out ho eo => ?_
  · intro d hd d' hd'
    obtain ⟨x, _, rfl⟩ := List.mem_map.mp hd
    obtain ⟨y, _, rfl⟩ := List.mem_map.mp hd'
    rfl
  · refine .inr fun d hd => ?_
    obtain ⟨x, _, rfl⟩ := List.mem_map.mp hd
    exact ⟨(fun z => by cases z), (fun _ z => by cases z)⟩
  · show A.units + 1 + 1 + 0 < cLine
    omega
  · have e1 : ((vs.map sv).mergeSort (PySem.W.dataLe false fun x : Str => PyData.str x)) = (vs.map sv).mergeSort fun x y => !slt y x := by
      congr 1
      rw [PySem.W.dataLe_str]
      funext x y
      have := PySem.W.not_lt_str y.cps.toList x.cps.toList
      show decide (x.cps.toList ≤ y.cps.toList) = !decide (y.cps.toList < x.cps.toList)
      rw [← PySem.W.not_lt_str]
    rw [e1] at eo
    have hout : (List.toArray out).toList = out := rfl
    obtain ⟨c, hc⟩ := sortedHeap_at (vs := vs) (out := List.toArray out) hoL
    refine wpAny_pure ⟨_, rfl, h _ s1.heap.objs.size out _ c (fun b u e => ?_) g1 o1 hz hc (each_strs eo) ⟨vs.map sv, pk.nodup_iff.mpr q.nd, fun x => (pk.mem_iff).trans (q.mem x), by rw [pk.length_eq, List.length_map, Array.length_toList]; exact q.few, rfl⟩⟩
    have k2 := k1 b u e
    have lt := Heap.lt_size k2
    show (sortedHeap (s1.heap.push (seqObj "list" vs.toArray 0)) s1.heap.objs.size vs (List.toArray out)).get? b = some u
    rw [sortedHeap_old (Nat.ne_of_lt lt) (by rw [size_push']; exact Nat.lt_succ_of_lt lt)]
    exact Heap.get?_push_of_some _ k2
end
/-! ### sorted(set(e)) -/
def asStrs : List D → Option (List Str)
  | [] => some []
  | .str i :: r => (asStrs r).map (i :: ·)
  | _ => none
theorem asStrs_ok : ∀ {ds : List D} {ns : List Str}, asStrs ds = some ns → ds = ns.map D.str
  | [], ns, h => by cases h; rfl
  | d :: r, ns, h => by
    cases d with
    | str i =>
      have h : (asStrs r).map (i :: ·) = some ns := h
      cases e : asStrs r with
      | none => rw [e] at h; cases h
      | some ms => rw [e] at h; cases h; rw [asStrs_ok e]; rfl
    | _ => cases h
theorem asStrs_map : ∀ ns : List Str, asStrs (ns.map D.str) = some ns
  | [] => rfl
  | n :: ns => by show (asStrs (ns.map D.str)).map (n :: ·) = _; rw [asStrs_map ns]; rfl
/-- the texts in their order, each once -/
def oSortSet : O1 := fun x R => match x with
  | .lst ds => match asStrs ds with
    | some xs => xs.length < 1000 ∧ ∀ ys : List Str, ys.Nodup → (∀ x, x ∈ ys ↔ x ∈ xs) → R (.l ((ys.mergeSort fun x y => !slt y x).map D.str))
    | none => False
  | _ => False
section
variable {X : Cx} {e : Expr} {φ : PhiE} {p1 p2 q1 q2 : Pos}
def rSortSet (K : PySem.W.Frag) : V → Hp → VK → Prop := fun x H Q => ∃ (l : Addr) (xs : List Str), x = .ref l ∧ SqL K H l (xs.map V.str) ∧ xs.length < 1000 ∧
  ∀ ys : List Str, ys.Nodup → (∀ x, x ∈ ys ↔ x ∈ xs) → ∀ p, H p = none → Q (.ref p) (upd H p (.lst ((ys.mergeSort fun x y => !slt y x).map V.str)))
theorem us_sortSet {K : PySem.W.Frag} : UnS K (rSortSet K) oSortSet := fun G U H μ x d R Q b l h k => by
  cases d with
  | lst ds =>
    obtain ⟨a, xs, rfl, h1, h2⟩ := l.lst b
    unfold oSortSet at h
    simp only at h
    cases e : asStrs ds with
    | none => rw [e] at h; exact h.elim
    | some ns =>
      rw [e] at h
      rw [asStrs_ok e] at h2
      rw [h2.strs] at h1
      exact ⟨a, ns, rfl, h1, h.1, fun ys n1 n2 p hp => k.lst b DVs.ofStrs (h.2 ys n1 n2) hp⟩
  | _ => exact h.elim
theorem vals_strs : ∀ {vs : List Value} {xs : List Str}, StrsAre vs xs → Vals (xs.map V.str) vs
  | [], [], .nil => .nil
  | _ :: _, _ :: _, .cons x t r => .cons ⟨t, rfl⟩ (vals_strs r)
theorem pe_sortSet {te : TE} (hu : X.A.units + 64 < cLine) (hc : X.calm = true) (hg : Gl X "sorted") (hm : X.mg "sorted" = none) (hg2 : Gl X "set") (hm2 : X.mg "set" = none) (ha : PE X e te)
    (na : starEach [e] X.env = (false, eval e X.env) :: starEach [] X.env := by rfl) : PE X (.Call (.Name "sorted" p1) [.Call (.Name "set" p2) [e] [] q1] [] q2) (fun σ H Q => te σ H fun x H1 => rSortSet X.K x H1 Q) := by
  refine ⟨fun pins s σ H Q I h => ?_⟩
  refine Call_ (ld_blt I hg hm (show bootBuiltins "sorted" = some (.builtin "sorted") from by decide +kernel) ?_)
  refine PyProof.Rows.callWith_builtin1 (PyProof.Rows.args_cons ?_ rfl) rfl rfl
  refine Call_ (ld_blt I hg2 hm2 boot_set ?_)
  refine PyProof.Rows.callWith_type1 (PyProof.Rows.args_cons (thn (ha.run pins s σ H _ I h) fun v s1 ⟨x, H1, I1, r1, qq⟩ => PyProof.Rows.args_nil ?_) na) na rfl
  obtain ⟨l, xs, rfl, hq, hl, k⟩ := qq
  cases r1
  obtain ⟨its, r, pl, hz⟩ := I1.list hq
  have big : 1001 < scanBound := by decide
  refine txt_call_list (I1.ok.hd hc) pl.isList (by simpa using L2.strsAre_of r) (by omega) fun s2 made => ?_
  obtain ⟨h', tk, rfl, T, keep⟩ := made
  have I2 : L2.Inv X pins σ H1 { s1 with heap := h', toks := tk } := I1.kept fun b o z => keep b o (Heap.lt_size z) z
  have T : TxtSet X.w ({ s1 with heap := h', toks := tk } : Shared).heap s1.heap.objs.size xs := T
  refine PyProof.Rows.args_nil ?_
  generalize ({ s1 with heap := h', toks := tk } : Shared) = s2 at I2 T ⊢
  refine txt_sorted (s := s2) T (I2.ok.hd hc) (by omega) hu fun s3 p out zs c k3 g3 o3 hp hobj hs hzs => ?_
  obtain ⟨ys, n1, n2, n3, rfl⟩ := hzs
  have fr : H1 p = none := I2.hok.fresh hp
  have sz : ((ys.mergeSort fun x y => !slt y x).map V.str).length ≤ sizeLine := by
    rw [List.length_map, (List.mergeSort_perm _ _).length_eq]
    have := small1000 (Nat.le_trans n3 (Nat.le_of_lt hl))
    omega
  have J : L2.Inv X pins σ (upd H1 p (.lst ((ys.mergeSort fun x y => !slt y x).map V.str))) { s2 with heap := s3.heap, gens := s3.gens, drawn := s3.drawn, toks := s3.toks } :=
    L2.Inv.call (ch := []) I2 (L2.Un.laid k3 hp fr) (I2.hok.laid k3 hp ⟨sz, out, c, vals_strs hs, hobj⟩) (by rw [g3]; exact I2.bare) (fun _ z => nomatch z)
  have same : s3 = { s2 with heap := s3.heap, gens := s3.gens, drawn := s3.drawn, toks := s3.toks } := by
    cases s3
    cases s2
    cases o3
    rfl
  rw [same]
  exact ⟨.ref p, _, J, rfl, k ys n1 n2 p fr⟩
theorem de_sortSet (hu : X.A.units + 64 < cLine) (hc : X.calm = true) (hg : Gl X "sorted") (hm : X.mg "sorted" = none) (hg2 : Gl X "set") (hm2 : X.mg "set" = none) (ha : PE X e (liftE X.K φ))
    (na : starEach [e] X.env = (false, eval e X.env) :: starEach [] X.env := by rfl) : PE X (.Call (.Name "sorted" p1) [.Call (.Name "set" p2) [e] [] q1] [] q2) (liftE X.K (eUn oSortSet φ)) :=
  (pe_sortSet hu hc hg hm hg2 hm2 ha na).imp fun _ _ _ q => un_of us_sortSet q
end
end DL
/-! DL17: written dicts of texts, upper, extend, pop. -/
namespace DL
open PySem PySem.Spec PyProof.Rows L2
/-- a written dict: its texts and their numbers -/
structure WDic (K : PySem.W.Frag) (w : World) (d : Addr) (kvs : List (Str × Int)) : Prop where
  ex : ∃ es n, KDict K w d es n
  get : ∀ z, (∀ i, kvs.lookup z = some i → ∃ t, PySem.W.nsIn K d z = some (some (.int i t))) ∧ (kvs.lookup z = none → PySem.W.nsIn K d z = some none)
def oInW (kvs : List (Str × Int)) (f : Bool → Bool) : O1 := fun x R => match x with
  | .str z => R (.d (.bl (f (kvs.lookup z).isSome)))
  | _ => False
def oIxW (kvs : List (Str × Int)) : O1 := fun x R => match x with
  | .str z => match kvs.lookup z with
    | some i => R (.d (.int i))
    | none => False
  | _ => False
section
variable {X : Cx} {e d : Expr} {φ : PhiE} {pos : Pos} {a : Addr} {kvs : List (Str × Int)}
theorem WDic.is {K : PySem.W.Frag} {w : World} (W : WDic K w a kvs) (z : Str) : ∃ r, PySem.W.nsIn K a z = some r ∧ r.isSome = (kvs.lookup z).isSome := by
  cases h : kvs.lookup z with
  | none => exact ⟨none, (W.get z).2 h, rfl⟩
  | some i =>
    obtain ⟨t, q⟩ := (W.get z).1 i h
    exact ⟨_, q, rfl⟩
def rInW (K : PySem.W.Frag) (a : Addr) (f : Bool → Bool) : R2 := fun x y H Q => ∃ (z : Str) (r : Option Value), x = .str z ∧ y = .ref a ∧ PySem.W.nsIn K a z = some r ∧ Q (.bl (f r.isSome)) H
theorem us_inW {K : PySem.W.Frag} {w : World} {f : Bool → Bool} (W : WDic K w a kvs) : UnS K (fun x H Q => rInW K a f x (.ref a) H Q) (oInW kvs f) := fun G U H μ x d R Q b l h k => by
  cases d with
  | str z =>
    cases l.str
    obtain ⟨r, q1, q2⟩ := W.is z
    exact ⟨z, r, rfl, rfl, q1, by rw [q2]; exact k.bl b h⟩
  | _ => exact h.elim
theorem de_inW (W : WDic X.K X.w a kvs) (he : PE X e (liftE X.K φ)) (hd : PE X d (tC (.ref a))) (hm : behindInMarks .In d = false) : PE X (.Compare e [.In] [d] pos) (liftE X.K (eUn (oInW kvs fun b => b) φ)) := by
  obtain ⟨es, n, D⟩ := W.ex
  exact (pe_cmpR (op_in_kd D) he hd hm).imp fun σ H Q q => un_of (us_inW W) q
theorem de_ninW (W : WDic X.K X.w a kvs) (he : PE X e (liftE X.K φ)) (hd : PE X d (tC (.ref a))) (hm : behindInMarks .NotIn d = false) : PE X (.Compare e [.NotIn] [d] pos) (liftE X.K (eUn (oInW kvs fun b => !b) φ)) := by
  obtain ⟨es, n, D⟩ := W.ex
  exact (pe_cmpR (op_notIn_kd D) he hd hm).imp fun σ H Q q => un_of (us_inW W) q
theorem dt_inW (W : WDic X.K X.w a kvs) (he : PE X e (liftE X.K φ)) (hd : PE X d (tC (.ref a))) (hm : behindInMarks .In d = false) : PT X (.Compare e [.In] [d] pos) (liftT X.K (tB (eUn (oInW kvs fun b => b) φ))) := by
  obtain ⟨es, n, D⟩ := W.ex
  exact (pt_cmpR (op_in_kd D) he hd hm).imp fun σ H Q q => un_of (us_inW W) (tB_of (φ := eUn (oInW kvs fun b => b) φ) q)
theorem dt_ninW (W : WDic X.K X.w a kvs) (he : PE X e (liftE X.K φ)) (hd : PE X d (tC (.ref a))) (hm : behindInMarks .NotIn d = false) : PT X (.Compare e [.NotIn] [d] pos) (liftT X.K (tB (eUn (oInW kvs fun b => !b) φ))) := by
  obtain ⟨es, n, D⟩ := W.ex
  exact (pt_cmpR (op_notIn_kd D) he hd hm).imp fun σ H Q q => un_of (us_inW W) (tB_of (φ := eUn (oInW kvs fun b => !b) φ) q)
theorem de_ixW (W : WDic X.K X.w a kvs) (he : PE X e (liftE X.K φ)) (hd : PE X d (tC (.ref a))) (hp : PlainIx e) : PE X (.Subscript d e pos) (liftE X.K (eUn (oIxW kvs) φ)) := by
  obtain ⟨es, n, D⟩ := W.ex
  refine (pe_ix ix_kdict hd he hp).imp fun σ H Q q => ?_
  refine un_of (X := X) (r := fun x H Q => rIxD X.K X.w (.ref a) x H Q) (o := oIxW kvs) (fun G U H μ x d R Q b l h k => ?_) q
  cases d with
  | str z =>
    cases l.str
    unfold oIxW at h
    simp only at h
    cases hz : kvs.lookup z with
    | none => rw [hz] at h; exact h.elim
    | some i =>
      rw [hz] at h
      obtain ⟨t, q1⟩ := (W.get z).1 i hz
      exact ⟨a, z, .int i, rfl, rfl, ⟨es, n, _, D.at_, D.lit, q1, ⟨t, rfl⟩⟩, k.int b h⟩
  | _ => exact h.elim
/-! upper -/
def oUpper : O1 := fun x R => match x with
  | .str z => z.length ≤ 5592405 ∧ R (.d (.str (Txt.upper z)))
  | _ => False
theorem de_upper {apos : Pos} (he : PE X e (liftE X.K φ)) (hbase : attributeBase e "upper" X.env (eval e X.env) = eval e X.env := by rfl) (hline : (apos.endLine == pos.line) = true := by rfl) : PE X (.Call (.Attribute e "upper" apos) [] [] pos) (liftE X.K (eUn oUpper φ)) :=
  (pe_upper he hbase hline).imp fun σ H Q q => by
    refine un_of (X := X) (r := fun x H1 Q => (∃ a, x = .str a) ∧ ∃ a, x = .str a ∧ ([] : List V) = [] ∧ a.length ≤ 5592405 ∧ Q (.str (Txt.upper a)) H1) (o := oUpper) (fun G U H μ x d R Q b l h k => ?_) q
    cases d with
    | str z => cases l.str; exact ⟨⟨z, rfl⟩, z, rfl, rfl, h.1, k.str b h.2⟩
    | _ => exact h.elim
/-! xs.pop(), xs an own list -/
def ePop (i : Nat) : PhiE := fun s R => match get s.ρ i with
  | .l ds => match ds.getLast? with
    | some d => R (.d d) (s.set i (.l ds.dropLast))
    | none => False
  | _ => False
theorem DVs.dropLast {K : PySem.W.Frag} {G : Hp} {ds : List D} {vs : List V} (h : DVs K G ds vs) : DVs K G ds.dropLast vs.dropLast := by
  rw [List.dropLast_eq_take, List.dropLast_eq_take, h.len]
  exact h.take _
theorem de_pop {i : Nat} {o : Expr} {apos cpos : Pos} (ho : PE X o (tVar i)) (hbase : attributeBase o "pop" X.env (eval o X.env) = eval o X.env := by rfl) (hline : (apos.endLine == cpos.line) = true := by rfl) : PE X (.Call (.Attribute o "pop" apos) [] [] cpos) (liftE X.K (ePop i)) :=
  (pe_bm0 PySem.F.plainAttrs_list PySem.F.slot_list_pop PySem.F.type_list_pop mt_pop ho hbase hline).imp fun σ H Q ⟨G, U, s, R, hst, hr, k⟩ => by
    unfold ePop at hr
    cases e0 : get s.ρ i with
    | l ds =>
      rw [e0] at hr
      simp only at hr
      cases e1 : ds.getLast? with
      | none => rw [e1] at hr; exact hr.elim
      | some d =>
        rw [e1] at hr
        obtain ⟨a, xs, q1, q2, q3, q4⟩ := own_there hst e0
        rw [List.getLast?_eq_getElem?] at e1
        obtain ⟨v, hv, dv⟩ := q4.get e1
        rw [q4.len] at hv
        exact ⟨.ref a, q1, .inl ⟨rfl, xs, SqL.of q3⟩, a, xs, v, rfl, rfl, q3, hv, k _ _ G _ _ hr (Same.refl _) (hst.wr q2 ⟨_, upd_same, q4.dropLast⟩) dv⟩
    | _ => rw [e0] at hr; exact hr.elim
/-! xs.extend(e), xs an own list, e a new one -/
def extk (i : Nat) (k : S → Prop) (r : Sl) (s1 : S) : Prop := match r with
  | .l es => match get s1.ρ i with
    | .l ds => ds.length + es.length ≤ sizeLine ∧ k (s1.set i (.l (ds ++ es)))
    | _ => False
  | _ => False
def sExt (i : Nat) (φ : PhiE) : PhiS := fun Δ s => match get s.ρ i with
  | .l _ => φ s fun r s1 => extk i Δ.nx r s1
  | _ => False
theorem ds_ext {i : Nat} {o : Expr} {apos cpos : Pos} (ho : PE X o (tVar i)) (he : PE X e (liftE X.K φ))
    (hbase : attributeBase o "extend" X.env (eval o X.env) = eval o X.env := by rfl) (hline : (apos.endLine == cpos.line) = true := by rfl) (hs : starEach [e] X.env = [(false, eval e X.env)] := by rfl) (hsw : swapsWith (.Call (.Attribute o "extend" apos) [e] [] cpos) none pos.line X.env = pure false := by rfl)
    (hfew : ((backTo cpos (starEach [e] X.env)).all (fun x => !x.1) && (backToKw cpos (keywordEach [] X.env)).all (fun x => x.1.isSome) && decide ([e].length + ([] : List Keyword).length + (if ([] : List Keyword).isEmpty then 0 else 1) < 30)) = true := by rfl) :
    PS X (.Expr (.Call (.Attribute o "extend" apos) [e] [] cpos) pos) (liftS X.K (sExt i φ)) :=
  (ps_expr (pe_bm PySem.F.plainAttrs_list PySem.F.slot_list_extend PySem.F.type_list_extend mt_extend ho (pa_cons he pa_nil (by rw [hs] <;> rfl)) hbase hfew hline (by rw [hs] <;> rfl) rfl) hsw).imp fun E σ H ⟨G, U, s, Δ, hst, hr, k⟩ => by
    unfold sExt at hr
    cases e0 : get s.ρ i with
    | l ds0 =>
      rw [e0] at hr
      obtain ⟨a, xs, q1, q2, q3, q4⟩ := own_there hst e0
      refine ⟨.ref a, q1, .inl ⟨rfl, xs, SqL.of q3⟩, G, U, s, _, hst, hr, fun r s1 G1 H1 v r1 e1 hs1 hv1 => ?_⟩
      unfold extk at r1
      cases r with
      | l es =>
        simp only at r1
        cases e2 : get s1.ρ i with
        | l ds =>
          rw [e2] at r1
          obtain ⟨a', xs', p1, p2, p3, p4⟩ := own_there hs1 e2
          have : a' = a := by
            rw [q1] at p1
            injection p1 with p1
            injection p1 with p1
            injection p1 with p1
            exact p1.symm
          subst this
          obtain ⟨b, rfl, g1, g2, g3, ⟨zs, z1, z2⟩, _⟩ := hv1
          refine ⟨a', b, xs', zs, rfl, rfl, p3, z1, by rw [← p4.len, ← z2.len]; exact r1.1, ?_⟩
          exact k.nx _ G1 _ σ r1.2 e1 (hs1.wr p2 ⟨_, upd_same, p4.app z2⟩)
        | _ => rw [e2] at r1; exact r1.elim
      | _ => exact r1.elim
    | _ => rw [e0] at hr; exact hr.elim
end
/-! a written dict as it stands -/
inductive WEs (P : Params) : List DictEntry → List (Str × Int) → Prop
  | nil : WEs P [] []
  | cons {e : DictEntry} {r : List DictEntry} {x : Str} {i : Int} {t u : Tok} {l : List (Str × Int)} : e.key = .str x t → e.val = .int i u → e.hash = PyData.keyHash P x → WEs P r l → WEs P (e :: r) ((x, i) :: l)
theorem WEs.lit {P : Params} : ∀ {es : List DictEntry} {l : List (Str × Int)}, WEs P es l → PySem.W.KeysLit P es
  | [], [], .nil => trivial
  | e :: r, (x, i) :: l, .cons h1 _ h3 h4 => ⟨⟨x, _, h1, h3⟩, h4.lit⟩
theorem WEs.find {P : Params} : ∀ {es : List DictEntry} {l : List (Str × Int)}, WEs P es l → ∀ z : Str, (∀ i, l.lookup z = some i → ∃ e t, es.find? (·.key.isStr z) = some e ∧ e.val = .int i t) ∧ (l.lookup z = none → es.find? (·.key.isStr z) = none)
  | [], [], .nil, z => ⟨(fun i h => by cases h), fun _ => rfl⟩
  | e :: r, (x, i) :: l, .cons (t := t) (u := u) h1 h2 h3 h4, z => by
    have ih := h4.find z
    have hk : e.key.isStr z = (x == z) := by rw [h1]; rfl
    by_cases c : z = x
    · subst c
      refine ⟨fun j hj => ?_, fun hj => ?_⟩
      · rw [List.lookup_cons_self] at hj
        cases hj
        exact ⟨e, u, by rw [List.find?_cons_of_pos (by rw [hk]; simp)], h2⟩
      · rw [List.lookup_cons_self] at hj
        cases hj
    · have cx : (x == z) = false := beq_eq_false_iff_ne.mpr fun q => c q.symm
      have cz : (z == x) = false := beq_eq_false_iff_ne.mpr c
      have e1 : ((x, i) :: l).lookup z = l.lookup z := by rw [List.lookup_cons, cz]
      rw [e1, List.find?_cons_of_neg (by rw [hk, cx]; decide)]
      exact ih
theorem WEs.noref {P : Params} : ∀ {es : List DictEntry} {l : List (Str × Int)}, WEs P es l → es.any (·.refKey) = false
  | [], [], .nil => rfl
  | e :: r, (x, i) :: l, .cons h1 _ _ h4 => by
    rw [List.any_cons, h4.noref, Bool.or_false]
    unfold DictEntry.refKey
    rw [h1]
theorem wdic_of {K : PySem.W.Frag} {w : World} {a : Addr} {es : Array DictEntry} {n : Nat} {kvs : List (Str × Int)} (h : K.lookup a = some ⟨.type "dict", none, .dict es n, #[]⟩) (we : WEs w.params es.toList kvs) (low : (a == sysModules) = false) : WDic K w a kvs := by
  refine ⟨⟨es, n, h, we.lit, low⟩, fun z => ⟨fun i hi => ?_, fun hn => ?_⟩⟩
  · obtain ⟨e, t, q1, q2⟩ := (we.find z).1 i hi
    exact ⟨t, by unfold PySem.W.nsIn; rw [h]; simp only [q1, q2]⟩
  · have q := (we.find z).2 hn
    unfold PySem.W.nsIn
    rw [h]
    simp only [q, we.noref]
    rfl
section
variable {ρ : List Sl} {μ : Mu} {i : Nat} {R : Sl → S → Prop} {φ : PhiE} {Δ : DE} {ds es : List D} {RP : Sl → Prop} {x y : Str} {f : Bool → Bool} {kvs : List (Str × Int)} {P : Prop} {s : S} {kk : S → Prop}
def popk (i : Nat) (R : Sl → S → Prop) (s : S) (r : Sl) : Prop := match r with
  | .l ds => match ds.getLast? with
    | some d => R (.d d) (s.set i (.l ds.dropLast))
    | none => False
  | _ => False
theorem zPop : ePop i ⟨ρ, μ⟩ R = popk i R ⟨ρ, μ⟩ (get ρ i) := by
  unfold ePop popk
  cases get ρ i <;> rfl
theorem zpopk : popk i R ⟨ρ, μ⟩ (.l ds) = match ds.getLast? with
    | some d => R (.d d) ⟨put ρ i (.l ds.dropLast), μ⟩
    | none => False := propext Iff.rfl
theorem zExt : sExt i φ Δ ⟨ρ, μ⟩ = appk0 (get ρ i) (φ ⟨ρ, μ⟩ fun r s1 => extk i Δ.nx r s1) := by
  unfold sExt
  cases get ρ i <;> rfl
def extk2 (i : Nat) (k : S → Prop) (es : List D) (s : S) (r : Sl) : Prop := match r with
  | .l ds => ds.length + es.length ≤ sizeLine ∧ k (s.set i (.l (ds ++ es)))
  | _ => False
theorem zextk : extk i kk (.l es) ⟨ρ, μ⟩ = extk2 i kk es ⟨ρ, μ⟩ (get ρ i) := by
  unfold extk extk2
  cases get ρ i <;> rfl
theorem zextk2 : extk2 i kk es ⟨ρ, μ⟩ (.l ds) = (ds.length + es.length ≤ sizeLine ∧ kk ⟨put ρ i (.l (ds ++ es)), μ⟩) := propext Iff.rfl
theorem xUpper : oUpper (.str x) RP = (x.length ≤ 5592405 ∧ RP (.d (.str (Txt.upper x)))) := propext Iff.rfl
theorem xInW : oInW kvs f (.str x) RP = RP (.d (.bl (f (kvs.lookup x).isSome))) := propext Iff.rfl
theorem xIxW : oIxW kvs (.str x) RP = match kvs.lookup x with
    | some i => RP (.d (.int i))
    | none => False := propext Iff.rfl
theorem xLt_ss : oLt (.str x) (.str y) RP = RP (.d (.bl (slt x y))) := by show (True ∧ _) = _; rw [true_and]; rfl
theorem xLe_ss : oLe (.str x) (.str y) RP = RP (.d (.bl (!slt y x))) := by show (True ∧ _) = _; rw [true_and]; rfl
theorem xGt_ss : oGt (.str x) (.str y) RP = RP (.d (.bl (slt y x))) := by show (True ∧ _) = _; rw [true_and]; rfl
theorem xSl_t {xs : List D} {lo hi : Option Int} : oSl (.tup xs) lo hi RP = RP (.d (.tup (cutD xs lo hi))) := propext Iff.rfl
theorem xSl_l {xs : List D} {lo hi : Option Int} : oSl (.lst xs) lo hi RP = RP (.l (cutD xs lo hi)) := propext Iff.rfl
theorem xSl_s {lo hi : Option Int} : oSl (.str x) lo hi RP = (x.length ≤ sizeLine ∧ RP (.d (.str (cutS x lo hi)))) := propext Iff.rfl
end
end DL
/-! DL18: a call that is lent own lists and dicts: they are the frame's own again behind it. -/
namespace DL
open PySem PySem.Spec PyProof.Rows L2
mutual
/-- a tree without lists, dicts and machines -/
def D.imm : D → Bool
  | .tup ds => D.imms ds
  | .lst _ => false
  | .dic _ _ => false
  | .dit _ _ => false
  | .dlr => false
  | .non => true
  | .bl _ => true
  | .int _ => true
  | .str _ => true
  | .ty _ => true
  | .ref _ => true
def D.imms : List D → Bool
  | [] => true
  | d :: r => d.imm && D.imms r
end
def Sl.imm : Sl → Bool
  | .d y => y.imm
  | .l y => D.imms y
  | .k _ y => D.imms y
  | .t _ y => D.imms y
  | .no => false
  | .b _ => false
def box : HO → Prop
  | .lst _ => True
  | .dK _ => True
  | .dT _ => True
  | _ => False
section
variable {K : PySem.W.Frag} {G G' U H H' : Hp} {σ : L2.St} {s : S} {v : V} {r x : Sl} {a p : Addr} {μ : Mu}
def Less (G G' : Hp) : Prop := ∀ b, G' b = G b ∨ ∃ o, G b = some o ∧ box o
theorem sqt_less {xs : List V} (e : Less G G') (h : SqT K G a xs) : SqT K G' a xs := by
  have go : ∀ {o : HO}, G a = some o → ¬ box o → G' a = some o := fun {o} h n => by
    rcases e a with q | ⟨u, q, bx⟩
    · rw [q]; exact h
    · rw [q] at h
      cases h
      exact absurd bx n
  rcases h with (h | ⟨o, h⟩) | h
  · exact .inl (.inl (go h fun z => z))
  · exact .inl (.inr ⟨o, go h fun z => z⟩)
  · exact .inr h
mutual
theorem DV.less (e : Less G G') : ∀ {d : D} {v : V}, d.imm = true → DV K G d v → DV K G' d v
  | .non, _, _, h => h
  | .bl _, _, _, h => h
  | .int _, _, _, h => h
  | .str _, _, _, h => h
  | .ty _, _, _, h => h
  | .ref _, _, _, h => h
  | .tup _, _, i, ⟨a, xs, h1, h2, h3⟩ => ⟨a, xs, h1, sqt_less e h2, DVs.less e i h3⟩
  | .lst _, _, i, _ => by cases i
  | .dic _ _, _, i, _ => by cases i
  | .dit _ _, _, i, _ => by cases i
  | .dlr, _, i, _ => by cases i
theorem DVs.less (e : Less G G') : ∀ {ds : List D} {vs : List V}, D.imms ds = true → DVs K G ds vs → DVs K G' ds vs
  | [], _, _, h => h
  | d :: ds, _, i, ⟨x, r, h1, h2, h3⟩ => by
    have i : (d.imm && D.imms ds) = true := i
    rw [Bool.and_eq_true] at i
    exact ⟨x, r, h1, DV.less e i.1 h2, DVs.less e i.2 h3⟩
end
theorem Hd.less (e : Less G G') (eh : H a = H' a) (i : x.imm = true) (h : Hd K G H a x) : Hd K G' H' a x := by
  cases x with
  | l ds => obtain ⟨xs, h1, h2⟩ := h; exact ⟨xs, eh ▸ h1, h2.less e i⟩
  | k ks ds => obtain ⟨xs, h1, h2, h3⟩ := h; exact ⟨xs, eh ▸ h1, h2, h3.less e i⟩
  | t ks ds => obtain ⟨xs, h1, h2, h3⟩ := h; exact ⟨xs, eh ▸ h1, h2, h3.less e i⟩
  | _ => exact h.elim
theorem Hd.box (h : Hd K G H a x) : ∃ o, H a = some o ∧ box o := by
  cases x with
  | l ds => obtain ⟨xs, h1, h2⟩ := h; exact ⟨_, h1, trivial⟩
  | k ks ds => obtain ⟨xs, h1, h2, h3⟩ := h; exact ⟨_, h1, trivial⟩
  | t ks ds => obtain ⟨xs, h1, h2, h3⟩ := h; exact ⟨_, h1, trivial⟩
  | _ => exact h.elim
/-- what the callee sees as fixed: the own lists and dicts, too -/
theorem St.lend (h : St K G U H σ s) (hm : s.μ = fun _ => none) : Same G (Uo G H σ s.ρ) ∧ Base K (Uo G H σ s.ρ) U H (fun _ => none) := by
  have e : Same G (Uo G H σ s.ρ) := fun b o q => by
    rw [Uo_not]
    · exact q
    · rintro ⟨i, hi⟩
      rw [(h.own_facts hi).1] at q
      cases q
  refine ⟨e, fun b o q => ?_, h.base.usub, fun b o q => ⟨?_, rfl⟩, fun b o q => by cases q⟩
  · by_cases hb : ∃ i, OwnAt σ s.ρ i b
    · obtain ⟨i, hb⟩ := hb
      rw [Uo_own hb] at q
      exact q
    · rw [Uo_not hb] at q
      exact h.base.sub b o q
  · rw [Uo_not]
    · exact (h.base.ug b o q).1
    · rintro ⟨i, hi⟩
      rw [(h.own_facts hi).2.1] at q
      cases q
open Classical in
noncomputable def Gb (G : Hp) (σ : L2.St) (ρ : List Sl) : Hp := fun a => if (∃ i, OwnAt σ ρ i a) then none else G a
theorem Gb_own {ρ : List Sl} {i : Nat} (h : OwnAt σ ρ i a) : Gb G σ ρ a = none := if_pos ⟨i, h⟩
theorem Gb_not {ρ : List Sl} (h : ¬ ∃ i, OwnAt σ ρ i a) : Gb G σ ρ a = G a := if_neg h
theorem St.unlend (h : St K G U H σ s) (hm : s.μ = fun _ => none) {μ' : Mu} (e : Same (Uo G H σ s.ρ) G') (b : Base K G' U H' μ') :
    Same G (Gb G' σ s.ρ) ∧ St K (Gb G' σ s.ρ) U H' σ s ∧ ∀ r v, r.imm = true → Res K G' U H' μ' v r → RsOk K (Gb G' σ s.ρ) U H' σ s v r := by
  have own : ∀ {i a}, OwnAt σ s.ρ i a → ∃ o, H a = some o ∧ G' a = some o ∧ H' a = some o ∧ box o := fun {i a} ha => by
    obtain ⟨o, ho, bx⟩ := (h.own_facts ha).2.2.2.box
    have q : G' a = some o := e a o ((Uo_own ha).trans ho)
    exact ⟨o, ho, q, b.sub a o q, bx⟩
  have sm : Same G (Gb G' σ s.ρ) := fun c o q => by
    by_cases hc : ∃ i, OwnAt σ s.ρ i c
    · obtain ⟨i, hi⟩ := hc
      rw [(h.own_facts hi).1] at q
      cases q
    · rw [Gb_not hc]
      exact e c o ((h.lend hm).1 c o q)
  have ls : Less G' (Gb G' σ s.ρ) := fun c => by
    by_cases hc : ∃ i, OwnAt σ s.ρ i c
    · obtain ⟨i, hi⟩ := hc
      obtain ⟨o, _, q, _, bx⟩ := own hi
      exact .inr ⟨o, q, bx⟩
    · exact .inl (Gb_not hc)
  have none_of : ∀ {c}, G' c = none → Gb G' σ s.ρ c = none := fun {c} q => by
    by_cases hc : ∃ i, OwnAt σ s.ρ i c
    · obtain ⟨i, hi⟩ := hc
      exact Gb_own hi
    · rw [Gb_not hc]; exact q
  refine ⟨sm, ⟨⟨fun c o q => ?_, b.usub, fun c o q => ⟨none_of (b.ug c o q).1, by rw [hm]⟩, fun c o q => by rw [hm] at q; cases q⟩, h.len, fun i => ?_, h.dis⟩, fun r v im hr => ?_⟩
  · by_cases hc : ∃ i, OwnAt σ s.ρ i c
    · obtain ⟨i, hi⟩ := hc
      rw [Gb_own hi] at q
      cases q
    · rw [Gb_not hc] at q
      exact b.sub c o q
  · cases hx : (get s.ρ i).own with
    | true =>
      obtain ⟨a, e1, oa, h1, h2, h3, h4⟩ := h.ownAt hx
      obtain ⟨o, p1, p2, p3, _⟩ := own oa
      exact .ofOwn ⟨a, join_of e1, Gb_own oa, h2, h3, h4.mono sm (p1.trans p3.symm)⟩
    | false =>
      have hs := h.slot i
      cases e' : get s.ρ i with
      | no => exact trivial
      | d d =>
        rw [e'] at hs
        obtain ⟨v, h1, h2⟩ := hs
        exact ⟨v, h1, h2.mono sm⟩
      | b j => rw [e'] at hs; exact hs.elim
      | l ds => rw [e'] at hx; cases hx
      | k ks ds => rw [e'] at hx; cases hx
      | t ks ds => rw [e'] at hx; cases hx
  · cases ho : r.own with
    | true =>
      obtain ⟨p, rfl, h1, h2, h3, h4⟩ := (Res.own ho).mp hr
      refine (RsOk.own ho).mpr ⟨p, rfl, none_of h1, h2, by rw [hm], h4.less ls rfl im, fun i hi => ?_⟩
      obtain ⟨o, _, q, _, _⟩ := own hi
      rw [h1] at q
      cases q
    | false =>
      cases r with
      | d d => exact DV.less ls im hr
      | no => exact hr.elim
      | b i => exact hr.elim
      | l ds => cases ho
      | k ks ds => cases ho
      | t ks ds => cases ho
end
/-! ### arguments, lent -/
abbrev PhiL := S → (List Sl → S → Prop) → Prop
def lNil : PhiL := fun s R => R [] s
def lCons (φ : PhiE) (ψ : PhiL) : PhiL := fun s R => φ s fun r s1 => ψ s1 fun rs s2 => R (pin r :: rs) s2
def Pns (K : PySem.W.Frag) (G : Hp) (σ : L2.St) : List V → List Sl → Prop
  | [], [] => True
  | v :: vs, r :: rs => Pn K G σ v r ∧ Pns K G σ vs rs
  | _, _ => False
theorem Pns.mono {K : PySem.W.Frag} {G G' : Hp} {σ : L2.St} (e : Same G G') : ∀ {vs : List V} {rs : List Sl}, Pns K G σ vs rs → Pns K G' σ vs rs
  | [], [], h => h
  | _ :: _, _ :: _, h => ⟨h.1.mono e, h.2.mono e⟩
  | [], _ :: _, h => h
  | _ :: _, [], h => h
def liftL (K : PySem.W.Frag) (ψ : PhiL) : TA := fun σ H Q => ∃ G U s R, St K G U H σ s ∧ ψ s R ∧ ∀ rs s' G' H' vs, R rs s' → Same G G' → St K G' U H' σ s' → Pns K G' σ vs rs → Q vs H'
def lkL : List Sl → S → (List D → Prop) → Prop
  | [], _, k => k []
  | r :: rs, s, k => lk r s fun d => lkL rs s fun ds => k (d :: ds)
section
variable {X : Cx} {e : Expr} {es : List Expr} {φ : PhiE} {ψ : PhiL}
theorem dl_nil : PA X [] (liftL X.K lNil) := pa_nil.imp fun σ H Q ⟨G, U, s, R, hs, hr, k⟩ => k [] s G H [] hr (Same.refl _) hs trivial
theorem dl_cons (h : PE X e (liftE X.K φ)) (hr : PA X es (liftL X.K ψ)) (hs : starEach (e :: es) X.env = (false, eval e X.env) :: starEach es X.env := by rfl) : PA X (e :: es) (liftL X.K (lCons φ ψ)) :=
  (pa_cons h hr hs).imp fun σ H Q ⟨G, U, s, R, hs, hr, k⟩ => by
    refine ⟨G, U, s, _, hs, hr, fun r1 s1 G1 H1 v1 q1 e1 hs1 hv1 => ?_⟩
    obtain ⟨G1', e1', hs1', d1⟩ := pin_ok hs1 hv1
    exact ⟨G1', U, _, _, hs1', q1, fun ds s2 G2 H2 vs q2 e2 hs2 dvs => k _ s2 G2 H2 _ q2 ((e1.trans e1').trans e2) hs2 ⟨Pn.mono e2 d1, dvs⟩⟩
theorem lk_lend {K : PySem.W.Frag} {G U H : Hp} {σ : L2.St} {s : S} {v : V} {r : Sl} {k : D → Prop} (h : St K G U H σ s) (e : Same G (Uo G H σ s.ρ)) (hr : Pn K G σ v r) (hk : lk r s k) : ∃ d, DV K (Uo G H σ s.ρ) d v ∧ k d := by
  rcases hr with ⟨d, rfl, h2⟩ | ⟨i, rfl, h2⟩
  · exact ⟨d, h2.mono e, hk⟩
  · have hs := h.slot i
    unfold lk at hk
    simp only at hk
    have ownc : (get s.ρ i).own = true → DV K (Uo G H σ s.ρ) (frzD (get s.ρ i)) v := fun ho => by
      obtain ⟨a, e1, oa, h1, h2', h3, h4⟩ := h.ownAt ho
      rw [h2] at e1
      cases e1
      obtain ⟨o, ho'⟩ := h4.there
      exact h4.frz ho' e ((Uo_own oa).trans ho')
    cases e' : get s.ρ i with
    | d d =>
      rw [e'] at hk hs
      obtain ⟨w, h3, h4⟩ := hs
      rw [join_of h2] at h3
      cases h3
      exact ⟨d, h4.mono e, hk⟩
    | no => rw [e'] at hk; exact hk.elim
    | b j => rw [e'] at hk; exact hk.elim
    | l ds => rw [e'] at hk ownc; exact ⟨_, ownc rfl, hk⟩
    | k ks ds => rw [e'] at hk ownc; exact ⟨_, ownc rfl, hk⟩
    | t ks ds => rw [e'] at hk ownc; exact ⟨_, ownc rfl, hk⟩
theorem lkL_ok {K : PySem.W.Frag} {G U H : Hp} {σ : L2.St} {s : S} (h : St K G U H σ s) (e : Same G (Uo G H σ s.ρ)) : ∀ {rs : List Sl} {vs : List V} {k : List D → Prop}, Pns K G σ vs rs → lkL rs s k → ∃ ds, DVs K (Uo G H σ s.ρ) ds vs ∧ k ds
  | [], [], k, _, hk => ⟨[], rfl, hk⟩
  | r :: rs, v :: vs, k, hp, hk => by
    obtain ⟨d, h1, hk⟩ := lk_lend h e hp.1 hk
    obtain ⟨ds, h2, hk⟩ := lkL_ok h e hp.2 hk
    exact ⟨d :: ds, ⟨v, vs, rfl, h1, h2⟩, hk⟩
  | [], _ :: _, _, hp, _ => hp.elim
  | _ :: _, [], _, hp, _ => hp.elim
end
section
variable {X : Cx} {k n : Nat} {f : Addr} {fd : FuncData} {ps : List Str} {F : FD} {x : Str} {p pos : Pos} {e : Expr} {es : List Expr} {ψ : PhiL} {ds0 : List D} {dvs : List V} {us : List Value}
def eCallL (F : FD) (ds0 : List D) (ψ : PhiL) : PhiE := fun s R => ψ s fun rs s1 => lkL rs s1 fun ds => s1.μ = (fun _ => none) ∧ F (ds ++ ds0) (fun _ => none) fun r _ => r.imm = true ∧ R r s1
theorem call_ofL {σ : L2.St} {H : Hp} {Q : VK} (hv : ∀ G, DVs X.K G ds0 dvs) (hn : ∀ ds μ R, F ds μ R → ds.length = n) (q : liftE X.K (eCallL F ds0 ψ) σ H Q) : tCall (spD X.K n F) dvs E0 (liftL X.K ψ) σ H Q := by
  obtain ⟨G, U, s, R, hs, hr, k⟩ := q
  refine ⟨G, U, s, _, hs, hr, fun rs s1 G1 H1 vs q1 e1 hs1 dv => ?_⟩
  have hm : s1.μ = fun _ => none := by
    obtain ⟨ds, _, h2⟩ := lkL_ok (k := fun ds => s1.μ = (fun _ => none) ∧ F (ds ++ ds0) (fun _ => none) fun r _ => r.imm = true ∧ R r s1) hs1 (fun b o q => by
      rw [Uo_not]
      · exact q
      · rintro ⟨i, hi⟩
        rw [(hs1.own_facts hi).1] at q
        cases q) dv q1
    exact h2.1
  obtain ⟨e2, b2⟩ := hs1.lend hm
  obtain ⟨ds, hd, _, hF⟩ := lkL_ok hs1 e2 dv q1
  refine ⟨_, U, ds ++ ds0, fun _ => none, _, b2, hd.app (hv _), hn _ _ _ hF, hF, fun r v μ' G' H' q e b hv' => ?_⟩
  obtain ⟨a1, a2, a3⟩ := hs1.unlend hm e b
  exact k r _ _ H' v q.2 (e1.trans a1) a2 (a3 r v q.1 hv')
theorem de_callL (Fk : FnOk X.prog X.w X.K X.mg X.base CX0 k f fd ps (spD X.K n F)) (hr : Room k X.A) (hg : Gl X x) (hm : X.mg x = some (.ref f)) (hk : PySem.W.keepIn X.K (.ref f) = true) (hb : Binds X.K fd ps us) (hd : Vals dvs us) (hv : ∀ G, DVs X.K G ds0 dvs)
    (ha : PA X (e :: es) (liftL X.K ψ)) (hdb : (x == ("__debug__" : Str)) = false := by decide) (he : starEach (e :: es) X.env = (false, eval e X.env) :: starEach es X.env := by rfl) (hpl : (backTo pos (starEach es X.env)).any (·.1) = false := by rfl) :
    PE X (.Call (.Name x p) (e :: es) [] pos) (liftE X.K (eCallL (fdn n F) ds0 ψ)) :=
  L2.PE.imp (t := tCall (spD X.K n (fdn n F)) dvs E0 (liftL X.K ψ)) (pe_call (by rw [spD_n]; exact Fk) hr hg hm hk hb hd pass0 ha hdb he hpl) fun σ H Q q => call_ofL hv (fun _ _ _ h => h.1) q
end
section
variable {ρ : List Sl} {μ : Mu} {i : Nat} {R : Sl → S → Prop} {RL : List Sl → S → Prop} {φ : PhiE} {ψ : PhiL} {ds es : List D} {ks : List Key} {d : D} {r : Sl} {rs : List Sl} {F : FD} {s : S} {K : List D → Prop} {x : Str} {j : Int} {b : Bool}
theorem zlNil : lNil ⟨ρ, μ⟩ RL = RL [] ⟨ρ, μ⟩ := propext Iff.rfl
theorem zlCons : lCons φ ψ ⟨ρ, μ⟩ RL = φ ⟨ρ, μ⟩ fun r s1 => ψ s1 fun rs s2 => RL (pin r :: rs) s2 := propext Iff.rfl
theorem zpin_d : pin (.d d) = .d d := rfl
theorem zpin_l : pin (.l ds) = .d (.lst ds) := rfl
theorem zpin_k : pin (.k ks ds) = .d (.dic ks ds) := rfl
theorem zpin_b : pin (.b i) = .b i := rfl
theorem zlkL0 : lkL [] s K = K [] := propext Iff.rfl
theorem zlkL1 : lkL (r :: rs) s K = lk r s fun d => lkL rs s fun ds => K (d :: ds) := propext Iff.rfl
theorem zCallL : eCallL F es ψ ⟨ρ, μ⟩ R = ψ ⟨ρ, μ⟩ fun rs s1 => lkL rs s1 fun ds => s1.μ = (fun _ => none) ∧ F (ds ++ es) (fun _ => none) fun r _ => r.imm = true ∧ R r s1 := propext Iff.rfl
theorem zimm_d : Sl.imm (.d d) = d.imm := rfl
theorem zimm_l : Sl.imm (.l ds) = D.imms ds := rfl
theorem zimm_k : Sl.imm (.k ks ds) = D.imms ds := rfl
theorem zimm_i : D.imm (.int j) = true := rfl
theorem zimm_s : D.imm (.str x) = true := rfl
theorem zimm_b : D.imm (.bl b) = true := rfl
theorem zimm_n : D.imm .non = true := rfl
theorem zimm_t : D.imm (.tup ds) = D.imms ds := rfl
theorem zimm_0 : D.imms [] = true := rfl
theorem zimm_1 : D.imms (d :: ds) = (d.imm && D.imms ds) := rfl
/-! sorted(set(texts)) -/
theorem zSortSet {RP : Sl → Prop} {xs : List Str} : oSortSet (.lst (xs.map .str)) RP = (xs.length < 1000 ∧ ∀ ys : List Str, ys.Nodup → (∀ x, x ∈ ys ↔ x ∈ xs) → RP (.l ((ys.mergeSort fun x y => !slt y x).map D.str))) := by
  unfold oSortSet
  simp only [asStrs_map]
end
end DL
/-! DL19: texts and pairs of texts in order. -/
namespace DL
open PySem PySem.Spec PyProof.Rows L2
theorem str_ext {x y : Str} (h : x.cps.toList = y.cps.toList) : x = y := by
  cases x
  cases y
  congr 1
  exact Array.toList_inj.mp h
theorem slt_iff {x y : Str} : slt x y = true ↔ x.cps.toList < y.cps.toList := by
  unfold slt
  exact decide_eq_true_iff
theorem nslt_iff {x y : Str} : (!slt y x) = true ↔ x.cps.toList ≤ y.cps.toList := by
  rw [Bool.not_eq_true', ← Bool.not_eq_true, slt_iff]
  exact Iff.rfl
theorem slt_irr (x : Str) : slt x x = false := by
  rw [← Bool.not_eq_true, slt_iff]
  exact List.lt_irrefl _
theorem slt_tr {x y z : Str} (h : slt x y = true) (g : slt y z = true) : slt x z = true := slt_iff.mpr (List.lt_trans (slt_iff.mp h) (slt_iff.mp g))
theorem slt_as {x y : Str} (h : slt x y = true) : slt y x = false := by
  cases e : slt y x with
  | false => rfl
  | true => have := slt_tr h e; rw [slt_irr] at this; cases this
theorem slt_neq {x y : Str} (h : slt x y = true) : x ≠ y := fun e => by
  subst e
  rw [slt_irr] at h
  cases h
theorem slt_tri {x y : Str} (h : x ≠ y) : slt x y = true ∨ slt y x = true := by
  by_cases a : slt x y = true
  · exact .inl a
  · by_cases b : slt y x = true
    · exact .inr b
    · rw [slt_iff] at a b
      exact absurd (str_ext (List.le_antisymm (List.not_lt.mp b) (List.not_lt.mp a))) h
def leS (x y : Str) : Bool := !slt y x
theorem leS_tr (x y z : Str) (h : leS x y = true) (g : leS y z = true) : leS x z = true := nslt_iff.mpr (List.le_trans (nslt_iff.mp h) (nslt_iff.mp g))
theorem leS_tot (x y : Str) : (leS x y || leS y x) = true := by
  unfold leS
  cases e : slt y x with
  | false => rfl
  | true => rw [slt_as e]; rfl
def sortS (xs : List Str) : List Str := xs.mergeSort leS
theorem sortS_mem {xs : List Str} {x : Str} : x ∈ sortS xs ↔ x ∈ xs := List.mem_mergeSort
theorem sortS_len {xs : List Str} : (sortS xs).length = xs.length := List.length_mergeSort _
theorem sortS_asc {xs : List Str} (h : xs.Nodup) : (sortS xs).Pairwise fun x y => slt x y = true := by
  have p := List.pairwise_mergeSort leS_tr leS_tot xs
  have n : (sortS xs).Nodup := (List.mergeSort_perm _ _).nodup_iff.mpr h
  refine (List.pairwise_and_iff.mpr ⟨p, n⟩).imp fun {x y} q => ?_
  rcases slt_tri q.2 with a | a
  · exact a
  · have := q.1
    unfold leS at this
    rw [a] at this
    cases this
theorem oks_str : ∀ vs : List Str, D.oks (vs.map D.str) = true
  | [] => rfl
  | v :: vs => by
    show (true && D.oks (vs.map D.str)) = true
    rw [oks_str vs]
    rfl
theorem deps_str : ∀ vs : List Str, D.deps (vs.map D.str) = 0
  | [] => rfl
  | v :: vs => by
    show max 0 (D.deps (vs.map D.str)) = 0
    rw [deps_str vs]
    rfl
theorem cin_str {x : Str} {vs : List Str} : cIn (.str x) (vs.map D.str) = True := eq_true ⟨⟨rfl, oks_str vs⟩, by rw [deps_str]; show min 0 0 ≤ 50; decide⟩
theorem any_str (x : Str) : ∀ vs : List Str, ((vs.map D.str).any fun z => D.eq z (.str x)) = decide (x ∈ vs)
  | [] => rfl
  | v :: vs => by
    rw [List.map_cons, List.any_cons, any_str x vs]
    show ((v == x) || decide (x ∈ vs)) = _
    rw [Str.beq_dec]
    by_cases h : v = x
    · subst h; simp
    · have h' : ¬ x = v := fun e => h e.symm
      simp [h, h']
theorem xInS_t {x : Str} {vs : List Str} {f : Bool → Bool} {R : Sl → Prop} : oIn f (.str x) (.tup (vs.map D.str)) R = R (.d (.bl (f (decide (x ∈ vs))))) := by
  rw [xIn_t, cin_str, any_str, true_and]
theorem xInS_l {x : Str} {vs : List Str} {f : Bool → Bool} {R : Sl → Prop} : oIn f (.str x) (.lst (vs.map D.str)) R = R (.d (.bl (f (decide (x ∈ vs))))) := by
  rw [xIn_l, cin_str, any_str, true_and]
theorem csort_str (xs : List Str) : cSort (xs.map D.str) := by
  refine ⟨fun d hd => ?_, fun d hd e he => ?_, .inr fun d hd ys => ?_⟩
  · obtain ⟨x, _, rfl⟩ := List.mem_map.mp hd
    exact ⟨rfl, Nat.zero_le _, fun z => by cases z⟩
  · obtain ⟨x, _, rfl⟩ := List.mem_map.mp hd
    obtain ⟨y, _, rfl⟩ := List.mem_map.mp he
    rfl
  · obtain ⟨x, _, rfl⟩ := List.mem_map.mp hd
    exact fun z => by cases z
theorem sort_str (xs : List Str) : (xs.map D.str).mergeSort leD = (sortS xs).map D.str :=
  (List.map_mergeSort (r := leS) (s := leD) (f := D.str) fun _ _ _ _ => rfl).symm
/-! pairs of texts -/
def sp (p : Str × Str) : D := .tup [.str p.1, .str p.2]
theorem lt_sp (p q : Str × Str) : D.lt (sp p) (sp q) = if p.1 = q.1 then slt p.2 q.2 else slt p.1 q.1 := by
  show (if (p.1 == q.1) = true then (if (p.2 == q.2) = true then false else slt p.2 q.2) else slt p.1 q.1) = _
  rw [Str.beq_dec, Str.beq_dec]
  by_cases h : p.1 = q.1
  · by_cases g : p.2 = q.2
    · simp [h, g, slt_irr]
    · simp [h, g]
  · simp [h]
def leP2 (p q : Str × Str) : Bool := leD (sp p) (sp q)
theorem leP2_tr (x y z : Str × Str) (h : leP2 x y = true) (g : leP2 y z = true) : leP2 x z = true := by
  unfold leP2 leD at *
  rw [lt_sp] at *
  by_cases a : y.1 = x.1
  · rw [if_pos a] at h
    by_cases b : z.1 = y.1
    · rw [if_pos b] at g
      rw [if_pos (b.trans a)]
      exact leS_tr _ _ _ h g
    · rw [if_neg b] at g
      rw [if_neg (fun e => b (e.trans a.symm)), ← a]
      exact g
  · rw [if_neg a] at h
    by_cases b : z.1 = y.1
    · rw [if_neg (fun e => a (b.symm.trans e)), b]
      exact h
    · rw [if_neg b] at g
      have c := leS_tr _ _ _ h g
      by_cases e : z.1 = x.1
      · rw [e] at g
        have : slt x.1 y.1 = true := (slt_tri fun q => a q.symm).resolve_right fun q => by rw [q] at h; cases h
        rw [this] at g
        cases g
      · rw [if_neg e]
        exact c
theorem leP2_tot (x y : Str × Str) : (leP2 x y || leP2 y x) = true := by
  unfold leP2 leD
  rw [lt_sp, lt_sp]
  by_cases a : y.1 = x.1
  · rw [if_pos a, if_pos a.symm]
    exact leS_tot _ _
  · rw [if_neg a, if_neg fun e => a e.symm]
    exact leS_tot _ _
def sortP (xs : List (Str × Str)) : List (Str × Str) := xs.mergeSort leP2
theorem sortP_mem {xs : List (Str × Str)} {x : Str × Str} : x ∈ sortP xs ↔ x ∈ xs := List.mem_mergeSort
theorem sortP_len {xs : List (Str × Str)} : (sortP xs).length = xs.length := List.length_mergeSort _
theorem sortP_asc {xs : List (Str × Str)} (h : xs.Pairwise fun p q => p.1 ≠ q.1) : (sortP xs).Pairwise fun x y => slt x.1 y.1 = true := by
  have p := List.pairwise_mergeSort leP2_tr leP2_tot xs
  have n : (sortP xs).Pairwise fun p q => p.1 ≠ q.1 := (List.mergeSort_perm _ _).symm.pairwise h fun {a b} z => z.symm
  refine (List.pairwise_and_iff.mpr ⟨p, n⟩).imp fun {x y} q => ?_
  rcases slt_tri q.2 with a | a
  · exact a
  · have := q.1
    unfold leP2 leD at this
    rw [lt_sp, if_neg fun e => q.2 e.symm, a] at this
    cases this
theorem csort_sp (xs : List (Str × Str)) : cSort (xs.map sp) := by
  refine ⟨fun d hd => ?_, fun d hd e he => ?_, .inl fun d hd => ?_⟩
  · obtain ⟨x, _, rfl⟩ := List.mem_map.mp hd
    exact ⟨rfl, by show 1 ≤ 50; decide, fun z => by cases z⟩
  · obtain ⟨x, _, rfl⟩ := List.mem_map.mp hd
    obtain ⟨y, _, rfl⟩ := List.mem_map.mp he
    rfl
  · obtain ⟨x, _, rfl⟩ := List.mem_map.mp hd
    exact ⟨_, _, rfl⟩
theorem sort_sp (xs : List (Str × Str)) : (xs.map sp).mergeSort leD = (sortP xs).map sp :=
  (List.map_mergeSort (r := leP2) (s := leD) (f := sp) fun _ _ _ _ => rfl).symm
end DL
namespace K04
open PySem PySem.Spec PyProof.Rows L2 DL
def B_is_name_0 : PhiS :=
  sIf (tB (eOp (oIn fun b => !b) (eV 1) (eC (.str "abcdefghijklmnopqrstuvwxyzABCDEFGHIJKLMNOPQRSTUVWXYZ0123456789_")))) (sRet (eC (.bl false))) (sNil)
theorem B_is_name_0_eq {Δ : DE} {ρ : List Sl} {μ : Mu} : B_is_name_0 Δ ⟨ρ, μ⟩ = (sIf (tB (eOp (oIn fun b => !b) (eV 1) (eC (.str "abcdefghijklmnopqrstuvwxyzABCDEFGHIJKLMNOPQRSTUVWXYZ0123456789_")))) (sRet (eC (.bl false))) (sNil)) Δ ⟨ρ, μ⟩ := propext Iff.rfl
def Φ_is_name : PhiS :=
  sSeq (sIf (tOr (tNot (tT (eUn (oIsT (isOnly "str")) (eV 0)))) (tNot (tT (eV 0)))) (sRet (eC (.bl false))) (sNil))
  (sSeq (sIf (tB (eOp (oIn fun b => !b) (eOp oIx (eV 0) (eC (.int 0))) (eC (.str "abcdefghijklmnopqrstuvwxyz")))) (sRet (eC (.bl false))) (sNil))
  (sSeq (sFor (iE (eV 0)) (gN 1) (B_is_name_0))
  (sRet (eC (.bl true)))))
def fn_is_name : FD := body 2 Φ_is_name
def B_is_ascending_0 : PhiS :=
  sIf (tNot (tB (eOp oLt (eOp oIx (eV 0) (eOp oSub (eV 1) (eC (.int 1)))) (eOp oIx (eV 0) (eV 1))))) (sRet (eC (.bl false))) (sNil)
theorem B_is_ascending_0_eq {Δ : DE} {ρ : List Sl} {μ : Mu} : B_is_ascending_0 Δ ⟨ρ, μ⟩ = (sIf (tNot (tB (eOp oLt (eOp oIx (eV 0) (eOp oSub (eV 1) (eC (.int 1)))) (eOp oIx (eV 0) (eV 1))))) (sRet (eC (.bl false))) (sNil)) Δ ⟨ρ, μ⟩ := propext Iff.rfl
def Φ_is_ascending : PhiS :=
  sSeq (sFor (iR2 (aCons (eC (.int 1)) (aCons (eUn oLen (eV 0)) (aNil)))) (gN 1) (B_is_ascending_0))
  (sRet (eC (.bl true)))
def fn_is_ascending : FD := body 2 Φ_is_ascending
def B_is_row_of_names_0 : PhiS :=
  sIf (tNot (tT (eCall (fdn 1 (fn_is_name)) [] (aCons (eV 1) (aNil))))) (sRet (eC (.bl false))) (sNil)
theorem B_is_row_of_names_0_eq {Δ : DE} {ρ : List Sl} {μ : Mu} : B_is_row_of_names_0 Δ ⟨ρ, μ⟩ = (sIf (tNot (tT (eCall (fdn 1 (fn_is_name)) [] (aCons (eV 1) (aNil))))) (sRet (eC (.bl false))) (sNil)) Δ ⟨ρ, μ⟩ := propext Iff.rfl
def Φ_is_row_of_names : PhiS :=
  sSeq (sIf (tOr (tNot (tT (eUn (oIsT (isOnly "tuple")) (eV 0)))) (tNot (tT (eV 0)))) (sRet (eC (.bl false))) (sNil))
  (sSeq (sFor (iE (eV 0)) (gN 1) (B_is_row_of_names_0))
  (sRet (eCall (fdn 1 (fn_is_ascending)) [] (aCons (eV 0) (aNil)))))
def fn_is_row_of_names : FD := body 2 Φ_is_row_of_names
def Φ_is_pair_of_names : PhiS :=
  sSeq (sIf (tOr (tNot (tT (eUn (oIsT (isOnly "tuple")) (eV 0)))) (tB (eOp oNe (eUn oLen (eV 0)) (eC (.int 2))))) (sRet (eC (.bl false))) (sNil))
  (sRet (eAnd (eCall (fdn 1 (fn_is_name)) [] (aCons (eOp oIx (eV 0) (eC (.int 0))) (aNil))) (eCall (fdn 1 (fn_is_name)) [] (aCons (eOp oIx (eV 0) (eC (.int 1))) (aNil)))))
def fn_is_pair_of_names : FD := body 1 Φ_is_pair_of_names
def B_is_series_0 : PhiS :=
  sSeq (sIf (tNot (tT (eCall (fdn 1 (fn_is_pair_of_names)) [] (aCons (eV 2) (aNil))))) (sRet (eC (.bl false))) (sNil))
  (sSeq (sIf (tAnd (tB (eOp (oIs fun b => !b) (eV 1) (eC .non))) (tB (eOp oLe (eOp oIx (eV 2) (eC (.int 0))) (eV 1)))) (sRet (eC (.bl false))) (sNil))
  (sSet 1 (eOp oIx (eV 2) (eC (.int 0)))))
theorem B_is_series_0_eq {Δ : DE} {ρ : List Sl} {μ : Mu} : B_is_series_0 Δ ⟨ρ, μ⟩ = (sSeq (sIf (tNot (tT (eCall (fdn 1 (fn_is_pair_of_names)) [] (aCons (eV 2) (aNil))))) (sRet (eC (.bl false))) (sNil))
  (sSeq (sIf (tAnd (tB (eOp (oIs fun b => !b) (eV 1) (eC .non))) (tB (eOp oLe (eOp oIx (eV 2) (eC (.int 0))) (eV 1)))) (sRet (eC (.bl false))) (sNil))
  (sSet 1 (eOp oIx (eV 2) (eC (.int 0)))))) Δ ⟨ρ, μ⟩ := propext Iff.rfl
def Φ_is_series : PhiS :=
  sSeq (sIf (tNot (tT (eUn (oIsT (isOnly "tuple")) (eV 0)))) (sRet (eC (.bl false))) (sNil))
  (sSeq (sSet 1 (eC .non))
  (sSeq (sFor (iE (eV 0)) (gN 2) (B_is_series_0))
  (sRet (eC (.bl true)))))
def fn_is_series : FD := body 3 Φ_is_series
def Φ_inner_selectors : PhiS :=
  sSeq (sSet 1 (eOp oIx (eV 0) (eC (.int 0))))
  (sSeq (sIf (tB (eOp oEq (eV 1) (eC (.str "not")))) (sRet (eLst (aCons (eOp oIx (eV 0) (eC (.int 1))) (aNil)))) (sNil))
  (sSeq (sIf (tOr (tB (eOp oEq (eV 1) (eC (.str "and")))) (tB (eOp oEq (eV 1) (eC (.str "or"))))) (sRet (eLst (aCons (eOp oIx (eV 0) (eC (.int 1))) (aCons (eOp oIx (eV 0) (eC (.int 2))) (aNil))))) (sNil))
  (sRet (eLst (aNil)))))
def fn_inner_selectors : FD := body 2 Φ_inner_selectors
def Φ_is_part : PhiS :=
  sSeq (sIf (tOr (tNot (tT (eUn (oIsT (isOnly "tuple")) (eV 0)))) (tNot (tT (eV 0)))) (sRet (eC (.bl false))) (sNil))
  (sSeq (sSet 1 (eOp oIx (eV 0) (eC (.int 0))))
  (sSeq (sIf (tOr (tNot (tT (eUn (oIsT (isOnly "str")) (eV 1)))) (tB (eUn (oInW [("any", 1), ("is", 3), ("has", 2), ("not", 2), ("and", 3), ("or", 3)] (fun b => !b)) (eV 1)))) (sRet (eC (.bl false))) (sNil))
  (sSeq (sIf (tB (eOp oNe (eUn oLen (eV 0)) (eUn (oIxW [("any", 1), ("is", 3), ("has", 2), ("not", 2), ("and", 3), ("or", 3)]) (eV 1)))) (sRet (eC (.bl false))) (sNil))
  (sSeq (sIf (tB (eOp oEq (eV 1) (eC (.str "is")))) (sRet (eAnd (eCall (fdn 1 (fn_is_name)) [] (aCons (eOp oIx (eV 0) (eC (.int 1))) (aNil))) (eCall (fdn 1 (fn_is_row_of_names)) [] (aCons (eOp oIx (eV 0) (eC (.int 2))) (aNil))))) (sNil))
  (sSeq (sIf (tB (eOp oEq (eV 1) (eC (.str "has")))) (sRet (eCall (fdn 1 (fn_is_name)) [] (aCons (eOp oIx (eV 0) (eC (.int 1))) (aNil)))) (sNil))
  (sRet (eC (.bl true))))))))
def fn_is_part : FD := body 2 Φ_is_part
def B_is_selector_0 : PhiS :=
  sSeq (sSet 3 (ePop 1))
  (sSeq (sSet 2 (eOp oAdd (eV 2) (eC (.int 1))))
  (sSeq (sIf (tOr (tB (eOp oGt (eV 2) (eC (.int 60)))) (tNot (tT (eCall (fdn 1 (fn_is_part)) [] (aCons (eV 3) (aNil)))))) (sRet (eC (.bl false))) (sNil))
  (sExt 1 (eCall (fdn 1 (fn_inner_selectors)) [] (aCons (eV 3) (aNil))))))
theorem B_is_selector_0_eq {Δ : DE} {ρ : List Sl} {μ : Mu} : B_is_selector_0 Δ ⟨ρ, μ⟩ = (sSeq (sSet 3 (ePop 1))
  (sSeq (sSet 2 (eOp oAdd (eV 2) (eC (.int 1))))
  (sSeq (sIf (tOr (tB (eOp oGt (eV 2) (eC (.int 60)))) (tNot (tT (eCall (fdn 1 (fn_is_part)) [] (aCons (eV 3) (aNil)))))) (sRet (eC (.bl false))) (sNil))
  (sExt 1 (eCall (fdn 1 (fn_inner_selectors)) [] (aCons (eV 3) (aNil))))))) Δ ⟨ρ, μ⟩ := propext Iff.rfl
def T_is_selector_1 : PhiT :=
  tT (eV 1)
theorem T_is_selector_1_eq {R : Bool → S → Prop} {ρ : List Sl} {μ : Mu} : T_is_selector_1 ⟨ρ, μ⟩ R = (tT (eV 1) : PhiT) ⟨ρ, μ⟩ R := propext Iff.rfl
def Φ_is_selector : PhiS :=
  sSeq (sSet 1 (eLst (aCons (eV 0) (aNil))))
  (sSeq (sSet 2 (eC (.int 0)))
  (sSeq (sWhile (T_is_selector_1) (B_is_selector_0))
  (sRet (eC (.bl true)))))
def fn_is_selector : FD := body 4 Φ_is_selector
def Φ_check_series : PhiS :=
  sIf (tNot (tT (eCall (fdn 1 (fn_is_series)) [] (aCons (eV 0) (aNil))))) (sNever) (sNil)
def fn_check_series : FD := body 1 Φ_check_series
def Φ_check_selector : PhiS :=
  sIf (tNot (tT (eCall (fdn 1 (fn_is_selector)) [] (aCons (eV 0) (aNil))))) (sNever) (sNil)
def fn_check_selector : FD := body 1 Φ_check_selector
def Φ_holds (F_holds : FD) : PhiS :=
  sSeq (sSet 2 (eOp oIx (eV 1) (eC (.int 0))))
  (sSeq (sIf (tB (eOp oEq (eV 2) (eC (.str "any")))) (sRet (eC (.bl true))) (sNil))
  (sSeq (sIf (tB (eOp oEq (eV 2) (eC (.str "has")))) (sRet (eOp (oIn fun b => b) (eOp oIx (eV 1) (eC (.int 1))) (eV 0))) (sNil))
  (sSeq (sIf (tB (eOp oEq (eV 2) (eC (.str "is")))) (sRet (eAnd (eOp (oIn fun b => b) (eOp oIx (eV 1) (eC (.int 1))) (eV 0)) (eOp (oIn fun b => b) (eOp oIx (eV 0) (eOp oIx (eV 1) (eC (.int 1)))) (eOp oIx (eV 1) (eC (.int 2)))))) (sNil))
  (sSeq (sIf (tB (eOp oEq (eV 2) (eC (.str "not")))) (sRet (eNot (tB (eCall (fdn 2 (F_holds)) [] (aCons (eV 0) (aCons (eOp oIx (eV 1) (eC (.int 1))) (aNil))))))) (sNil))
  (sSeq (sIf (tB (eOp oEq (eV 2) (eC (.str "and")))) (sRet (eAnd (eCall (fdn 2 (F_holds)) [] (aCons (eV 0) (aCons (eOp oIx (eV 1) (eC (.int 1))) (aNil)))) (eCall (fdn 2 (F_holds)) [] (aCons (eV 0) (aCons (eOp oIx (eV 1) (eC (.int 2))) (aNil)))))) (sNil))
  (sRet (eOr (eCall (fdn 2 (F_holds)) [] (aCons (eV 0) (aCons (eOp oIx (eV 1) (eC (.int 1))) (aNil)))) (eCall (fdn 2 (F_holds)) [] (aCons (eV 0) (aCons (eOp oIx (eV 1) (eC (.int 2))) (aNil)))))))))))
def fn_holds : Nat → FD
  | 0 => fun _ _ _ => False
  | n + 1 => body 3 (Φ_holds (fn_holds n))
def B_labels_of_0 : PhiS :=
  sDPut 1 (eV 2) (eV 3)
theorem B_labels_of_0_eq {Δ : DE} {ρ : List Sl} {μ : Mu} : B_labels_of_0 Δ ⟨ρ, μ⟩ = (sDPut 1 (eV 2) (eV 3)) Δ ⟨ρ, μ⟩ := propext Iff.rfl
def Φ_labels_of : PhiS :=
  sSeq (sSet 1 (eDicK))
  (sSeq (sFor (iE (eV 0)) (gT 2 (gsCons (gN 2) (gsCons (gN 3) (gsNil)))) (B_labels_of_0))
  (sRet (eV 1)))
def fn_labels_of : FD := body 4 Φ_labels_of
def Φ_fits : PhiS :=
  sSeq (sDrop (eCall (fdn 1 (fn_check_series)) [] (aCons (eV 0) (aNil))))
  (sSeq (sDrop (eCall (fdn 1 (fn_check_selector)) [] (aCons (eV 1) (aNil))))
  (sRet (eCall (fdn 2 (fn_holds 70)) [] (aCons (eCall (fdn 1 (fn_labels_of)) [] (aCons (eV 0) (aNil))) (aCons (eV 1) (aNil))))))
def fn_fits : FD := body 2 Φ_fits
def E_p_law_dealer_0 : PhiE :=
  eUn oInt (eV 1)
theorem E_p_law_dealer_0_eq {R : Sl → S → Prop} {ρ : List Sl} {μ : Mu} : E_p_law_dealer_0 ⟨ρ, μ⟩ R = (eUn oInt (eV 1) : PhiE) ⟨ρ, μ⟩ R := propext Iff.rfl
def Φ_p_law_dealer : PhiS :=
  sRet (eLst (aCons (eLc (iE (eSl (eV 0) (pNone) (pSome (eC (.int 63))))) [1] (gN 1) (fun s R => R true s) (E_p_law_dealer_0)) (aCons (eC (.int 0)) (aCons (eC (.int 0)) (aCons (eC (.int 97)) (aNil))))))
def fn0_p_law_dealer : FD := body 2 Φ_p_law_dealer
abbrev fn_p_law_dealer : FD := fnDealer
abbrev fn_p_law_deal : FD := fnDeal
def Φ_p_law_one : PhiS :=
  sRet (eOp oIx (eV 1) (eCall (fdn 2 (fn_p_law_deal)) [] (aCons (eV 0) (aCons (eUn oLen (eV 1)) (aNil)))))
def fn_p_law_one : FD := body 2 Φ_p_law_one
def B_p_law_name_0 : PhiS :=
  sSet 3 (eOp oAdd (eV 3) (eOp oIx (eV 2) (eCall (fdn 2 (fn_p_law_deal)) [] (aCons (eV 0) (aCons (eC (.int 63)) (aNil))))))
theorem B_p_law_name_0_eq {Δ : DE} {ρ : List Sl} {μ : Mu} : B_p_law_name_0 Δ ⟨ρ, μ⟩ = (sSet 3 (eOp oAdd (eV 3) (eOp oIx (eV 2) (eCall (fdn 2 (fn_p_law_deal)) [] (aCons (eV 0) (aCons (eC (.int 63)) (aNil))))))) Δ ⟨ρ, μ⟩ := propext Iff.rfl
def Φ_p_law_name : PhiS :=
  sSeq (sSet 1 (eC (.str "abcdefghijklmnopqrstuvwxyz")))
  (sSeq (sSet 2 (eOp oAdd (eOp oAdd (eV 1) (eUn oUpper (eV 1))) (eC (.str "_0123456789"))))
  (sSeq (sSet 3 (eOp oIx (eV 1) (eCall (fdn 2 (fn_p_law_deal)) [] (aCons (eV 0) (aCons (eC (.int 26)) (aNil))))))
  (sSeq (sFor (iR1 (aCons (eCall (fdn 2 (fn_p_law_one)) [] (aCons (eV 0) (aCons (eTup (aCons (eC (.int 0)) (aCons (eC (.int 0)) (aCons (eC (.int 1)) (aCons (eC (.int 1)) (aCons (eC (.int 2)) (aCons (eC (.int 5)) (aCons (eC (.int 38)) (aNil))))))))) (aNil)))) (aNil))) (gN 4) (B_p_law_name_0))
  (sRet (eV 3)))))
def fn_p_law_name : FD := body 5 Φ_p_law_name
def Φ_p_law_kin : PhiS :=
  sSeq (sSet 2 (eC (.str "abcdefghijklmnopqrstuvwxyz")))
  (sSeq (sSet 3 (eOp oIx (eOp oAdd (eOp oAdd (eV 2) (eUn oUpper (eV 2))) (eC (.str "_0123456789"))) (eCall (fdn 2 (fn_p_law_deal)) [] (aCons (eV 0) (aCons (eC (.int 63)) (aNil))))))
  (sSeq (sSet 4 (eOp oAdd (eC (.int 1)) (eCall (fdn 2 (fn_p_law_deal)) [] (aCons (eV 0) (aCons (eUn oLen (eV 1)) (aNil))))))
  (sRet (eOp oAdd (eOp oAdd (eSl (eV 1) (pNone) (pSome (eV 4))) (eV 3)) (eSl (eV 1) (pSome (eOp oAdd (eV 4) (eCall (fdn 2 (fn_p_law_deal)) [] (aCons (eV 0) (aCons (eC (.int 2)) (aNil)))))) (pNone))))))
def fn_p_law_kin : FD := body 5 Φ_p_law_kin
def B_p_law_pool_0 : PhiS :=
  sSeq (sSet 4 (eIf (tB (eOp oEq (eCall (fdn 2 (fn_p_law_deal)) [] (aCons (eV 0) (aCons (eC (.int 2)) (aNil)))) (eC (.int 0)))) (eCall (fdn 2 (fn_p_law_kin)) [] (aCons (eV 0) (aCons (eCallL (fdn 2 (fn_p_law_one)) [] (lCons (eV 0) (lCons (eV 2) (lNil)))) (aNil)))) (eCall (fdn 1 (fn_p_law_name)) [] (aCons (eV 0) (aNil)))))
  (sIf (tAnd (tB (eOp oLt (eUn oLen (eV 2)) (eV 1))) (tB (eOp (oIn fun b => !b) (eV 4) (eV 2)))) (sApp 2 (eV 4)) (sNil))
theorem B_p_law_pool_0_eq {Δ : DE} {ρ : List Sl} {μ : Mu} : B_p_law_pool_0 Δ ⟨ρ, μ⟩ = (sSeq (sSet 4 (eIf (tB (eOp oEq (eCall (fdn 2 (fn_p_law_deal)) [] (aCons (eV 0) (aCons (eC (.int 2)) (aNil)))) (eC (.int 0)))) (eCall (fdn 2 (fn_p_law_kin)) [] (aCons (eV 0) (aCons (eCallL (fdn 2 (fn_p_law_one)) [] (lCons (eV 0) (lCons (eV 2) (lNil)))) (aNil)))) (eCall (fdn 1 (fn_p_law_name)) [] (aCons (eV 0) (aNil)))))
  (sIf (tAnd (tB (eOp oLt (eUn oLen (eV 2)) (eV 1))) (tB (eOp (oIn fun b => !b) (eV 4) (eV 2)))) (sApp 2 (eV 4)) (sNil))) Δ ⟨ρ, μ⟩ := propext Iff.rfl
def Φ_p_law_pool : PhiS :=
  sSeq (sSet 2 (eLst (aCons (eCall (fdn 1 (fn_p_law_name)) [] (aCons (eV 0) (aNil))) (aNil))))
  (sSeq (sFor (iR1 (aCons (eOp oMul (eC (.int 2)) (eV 1)) (aNil))) (gN 3) (B_p_law_pool_0))
  (sRet (eV 2)))
def fn_p_law_pool : FD := body 5 Φ_p_law_pool
def E_p_law_values_0 : PhiE :=
  eOp oIx (eOp oAdd (eV 1) (eV 1)) (eOp oAdd (eV 3) (eV 4))
theorem E_p_law_values_0_eq {R : Sl → S → Prop} {ρ : List Sl} {μ : Mu} : E_p_law_values_0 ⟨ρ, μ⟩ R = (eOp oIx (eOp oAdd (eV 1) (eV 1)) (eOp oAdd (eV 3) (eV 4)) : PhiE) ⟨ρ, μ⟩ R := propext Iff.rfl
def Φ_p_law_values : PhiS :=
  sSeq (sSet 2 (eOp oAdd (eC (.int 1)) (eCall (fdn 2 (fn_p_law_deal)) [] (aCons (eV 0) (aCons (eUn oLen (eV 1)) (aNil))))))
  (sSeq (sSet 3 (eCall (fdn 2 (fn_p_law_deal)) [] (aCons (eV 0) (aCons (eUn oLen (eV 1)) (aNil)))))
  (sRet (eUn oTuple (eUn oSorted (eLc (iR1 (aCons (eV 2) (aNil))) [4] (gN 4) (fun s R => R true s) (E_p_law_values_0))))))
def fn_p_law_values : FD := body 5 Φ_p_law_values
def Φ_p_law_leaf : PhiS :=
  sSeq (sSet 3 (eCall (fdn 2 (fn_p_law_deal)) [] (aCons (eV 0) (aCons (eC (.int 7)) (aNil)))))
  (sSeq (sIf (tB (eOp oEq (eV 3) (eC (.int 0)))) (sRet (eTup (aCons (eC (.str "any")) (aNil)))) (sNil))
  (sSeq (sIf (tB (eOp oLt (eV 3) (eC (.int 3)))) (sRet (eTup (aCons (eC (.str "has")) (aCons (eCall (fdn 2 (fn_p_law_one)) [] (aCons (eV 0) (aCons (eV 1) (aNil)))) (aNil))))) (sNil))
  (sRet (eTup (aCons (eC (.str "is")) (aCons (eCall (fdn 2 (fn_p_law_one)) [] (aCons (eV 0) (aCons (eV 1) (aNil)))) (aCons (eCall (fdn 2 (fn_p_law_values)) [] (aCons (eV 0) (aCons (eV 2) (aNil)))) (aNil))))))))
def fn_p_law_leaf : FD := body 4 Φ_p_law_leaf
def I_p_law_selector_0 : PhiS :=
  sIf (tB (eOp oEq (eCall (fdn 2 (fn_p_law_deal)) [] (aCons (eV 0) (aCons (eC (.int 2)) (aNil)))) (eC (.int 0)))) (sSet 4 (eOp oSub (eOp oSub (eV 1) (eC (.int 1))) (eV 4))) (sNil)
theorem I_p_law_selector_0_eq {Δ : DE} {ρ : List Sl} {μ : Mu} : I_p_law_selector_0 Δ ⟨ρ, μ⟩ = (sIf (tB (eOp oEq (eCall (fdn 2 (fn_p_law_deal)) [] (aCons (eV 0) (aCons (eC (.int 2)) (aNil)))) (eC (.int 0)))) (sSet 4 (eOp oSub (eOp oSub (eV 1) (eC (.int 1))) (eV 4))) (sNil)) Δ ⟨ρ, μ⟩ := propext Iff.rfl
def Φ_p_law_selector (F_p_law_selector : FD) : PhiS :=
  sSeq (sIf (tB (eOp oEq (eV 1) (eC (.int 1)))) (sRet (eCall (fdn 3 (fn_p_law_leaf)) [] (aCons (eV 0) (aCons (eV 2) (aCons (eV 3) (aNil)))))) (sNil))
  (sSeq (sIf (tOr (tB (eOp oEq (eV 1) (eC (.int 2)))) (tB (eOp oEq (eCall (fdn 2 (fn_p_law_deal)) [] (aCons (eV 0) (aCons (eC (.int 4)) (aNil)))) (eC (.int 0))))) (sRet (eTup (aCons (eC (.str "not")) (aCons (eCall (fdn 4 (F_p_law_selector)) [] (aCons (eV 0) (aCons (eOp oSub (eV 1) (eC (.int 1))) (aCons (eV 2) (aCons (eV 3) (aNil)))))) (aNil))))) (sNil))
  (sSeq (sSet 4 (eOp oAdd (eC (.int 1)) (eIf (tB (eOp oEq (eCall (fdn 2 (fn_p_law_deal)) [] (aCons (eV 0) (aCons (eC (.int 2)) (aNil)))) (eC (.int 0)))) (eCall (fdn 2 (fn_p_law_deal)) [] (aCons (eV 0) (aCons (eOp oSub (eV 1) (eC (.int 2))) (aNil)))) (eC (.int 0)))))
  (sSeq (I_p_law_selector_0)
  (sSeq (sSet 5 (eCall (fdn 4 (F_p_law_selector)) [] (aCons (eV 0) (aCons (eV 4) (aCons (eV 2) (aCons (eV 3) (aNil)))))))
  (sRet (eTup (aCons (eCall (fdn 2 (fn_p_law_one)) [] (aCons (eV 0) (aCons (eTup (aCons (eC (.str "and")) (aCons (eC (.str "or")) (aNil)))) (aNil)))) (aCons (eV 5) (aCons (eCall (fdn 4 (F_p_law_selector)) [] (aCons (eV 0) (aCons (eOp oSub (eOp oSub (eV 1) (eC (.int 1))) (eV 4)) (aCons (eV 2) (aCons (eV 3) (aNil)))))) (aNil))))))))))
def fn_p_law_selector : Nat → FD
  | 0 => fun _ _ _ => False
  | n + 1 => body 6 (Φ_p_law_selector (fn_p_law_selector n))
def B_p_law_fits_0 : PhiS :=
  sIf (tB (eOp oEq (eOp oIx (eV 3) (eC (.int 0))) (eOp oIx (eV 1) (eC (.int 1))))) (sRet (eOr (eOp oEq (eV 2) (eC (.str "has"))) (eOp (oIn fun b => b) (eOp oIx (eV 3) (eC (.int 1))) (eOp oIx (eV 1) (eC (.int 2)))))) (sNil)
theorem B_p_law_fits_0_eq {Δ : DE} {ρ : List Sl} {μ : Mu} : B_p_law_fits_0 Δ ⟨ρ, μ⟩ = (sIf (tB (eOp oEq (eOp oIx (eV 3) (eC (.int 0))) (eOp oIx (eV 1) (eC (.int 1))))) (sRet (eOr (eOp oEq (eV 2) (eC (.str "has"))) (eOp (oIn fun b => b) (eOp oIx (eV 3) (eC (.int 1))) (eOp oIx (eV 1) (eC (.int 2)))))) (sNil)) Δ ⟨ρ, μ⟩ := propext Iff.rfl
def Φ_p_law_fits (F_p_law_fits : FD) : PhiS :=
  sSeq (sSet 2 (eOp oIx (eV 1) (eC (.int 0))))
  (sSeq (sIf (tB (eOp oEq (eV 2) (eC (.str "not")))) (sRet (eNot (tB (eCall (fdn 2 (F_p_law_fits)) [] (aCons (eV 0) (aCons (eOp oIx (eV 1) (eC (.int 1))) (aNil))))))) (sNil))
  (sSeq (sIf (tB (eOp oEq (eV 2) (eC (.str "and")))) (sRet (eAnd (eCall (fdn 2 (F_p_law_fits)) [] (aCons (eV 0) (aCons (eOp oIx (eV 1) (eC (.int 1))) (aNil)))) (eCall (fdn 2 (F_p_law_fits)) [] (aCons (eV 0) (aCons (eOp oIx (eV 1) (eC (.int 2))) (aNil)))))) (sNil))
  (sSeq (sIf (tB (eOp oEq (eV 2) (eC (.str "or")))) (sRet (eOr (eCall (fdn 2 (F_p_law_fits)) [] (aCons (eV 0) (aCons (eOp oIx (eV 1) (eC (.int 1))) (aNil)))) (eCall (fdn 2 (F_p_law_fits)) [] (aCons (eV 0) (aCons (eOp oIx (eV 1) (eC (.int 2))) (aNil)))))) (sNil))
  (sSeq (sIf (tB (eOp oEq (eV 2) (eC (.str "any")))) (sRet (eC (.bl true))) (sNil))
  (sSeq (sFor (iE (eV 0)) (gN 3) (B_p_law_fits_0))
  (sRet (eC (.bl false))))))))
def fn_p_law_fits : Nat → FD
  | 0 => fun _ _ _ => False
  | n + 1 => body 4 (Φ_p_law_fits (fn_p_law_fits n))
def E_p_law_series_0 : PhiE :=
  eTup (aCons (eV 4) (aCons (eCall (fdn 2 (fn_p_law_one)) [] (aCons (eV 0) (aCons (eV 2) (aNil)))) (aNil)))
theorem E_p_law_series_0_eq {R : Sl → S → Prop} {ρ : List Sl} {μ : Mu} : E_p_law_series_0 ⟨ρ, μ⟩ R = (eTup (aCons (eV 4) (aCons (eCall (fdn 2 (fn_p_law_one)) [] (aCons (eV 0) (aCons (eV 2) (aNil)))) (aNil))) : PhiE) ⟨ρ, μ⟩ R := propext Iff.rfl
def T_p_law_series_1 : PhiT :=
  tB (eOp oGt (eCall (fdn 2 (fn_p_law_deal)) [] (aCons (eV 0) (aCons (eC (.int 3)) (aNil)))) (eC (.int 0)))
theorem T_p_law_series_1_eq {R : Bool → S → Prop} {ρ : List Sl} {μ : Mu} : T_p_law_series_1 ⟨ρ, μ⟩ R = (tB (eOp oGt (eCall (fdn 2 (fn_p_law_deal)) [] (aCons (eV 0) (aCons (eC (.int 3)) (aNil)))) (eC (.int 0))) : PhiT) ⟨ρ, μ⟩ R := propext Iff.rfl
def Φ_p_law_series : PhiS :=
  sSeq (sSet 3 (eLc (iE (eV 1)) [4] (gN 4) (T_p_law_series_1) (E_p_law_series_0)))
  (sRet (eUn oTuple (eUn oSorted (eV 3))))
def fn_p_law_series : FD := body 5 Φ_p_law_series
def B_law_0 : PhiS :=
  sIf (tAnd (tB (eOp (oIn fun b => !b) (eV 3) (eV 2))) (tB (eOp oEq (eCall (fdn 2 (fn_p_law_deal)) [] (aCons (eV 1) (aCons (eC (.int 4)) (aNil)))) (eC (.int 0))))) (sApp 2 (eV 3)) (sNil)
theorem B_law_0_eq {Δ : DE} {ρ : List Sl} {μ : Mu} : B_law_0 Δ ⟨ρ, μ⟩ = (sIf (tAnd (tB (eOp (oIn fun b => !b) (eV 3) (eV 2))) (tB (eOp oEq (eCall (fdn 2 (fn_p_law_deal)) [] (aCons (eV 1) (aCons (eC (.int 4)) (aNil)))) (eC (.int 0))))) (sApp 2 (eV 3)) (sNil)) Δ ⟨ρ, μ⟩ := propext Iff.rfl
def E_law_1 : PhiE :=
  eCall (fdn 3 (fn_p_law_series)) [] (aCons (eV 1) (aCons (eSl (eV 2) (pNone) (pSome (eC (.int 6)))) (aCons (eV 4) (aNil))))
theorem E_law_1_eq {R : Sl → S → Prop} {ρ : List Sl} {μ : Mu} : E_law_1 ⟨ρ, μ⟩ R = (eCall (fdn 3 (fn_p_law_series)) [] (aCons (eV 1) (aCons (eSl (eV 2) (pNone) (pSome (eC (.int 6)))) (aCons (eV 4) (aNil)))) : PhiE) ⟨ρ, μ⟩ R := propext Iff.rfl
def B_law_2 : PhiS :=
  sSeq (sSet 10 (eCall (fdn 2 (fn_p_law_fits 70)) [] (aCons (eV 9) (aCons (eV 8) (aNil)))))
  (sSeq (sSet 11 (eCall (fdn 2 (fn_fits)) [] (aCons (eV 9) (aCons (eV 8) (aNil)))))
  (sIf (tOr (tNot (tT (eUn (oIsT (isOnly "bool")) (eV 11)))) (tOr (tB (eOp oNe (eV 11) (eV 10))) (tB (eOp oNe (eCallK (fdn 2 (fn_fits)) (fun l => match l with | [a, b] => [b, a] | _ => []) (aCons (eV 8) (aCons (eV 9) (aNil)))) (eV 10))))) (sRet (eC (.bl false))) (sNil)))
theorem B_law_2_eq {Δ : DE} {ρ : List Sl} {μ : Mu} : B_law_2 Δ ⟨ρ, μ⟩ = (sSeq (sSet 10 (eCall (fdn 2 (fn_p_law_fits 70)) [] (aCons (eV 9) (aCons (eV 8) (aNil)))))
  (sSeq (sSet 11 (eCall (fdn 2 (fn_fits)) [] (aCons (eV 9) (aCons (eV 8) (aNil)))))
  (sIf (tOr (tNot (tT (eUn (oIsT (isOnly "bool")) (eV 11)))) (tOr (tB (eOp oNe (eV 11) (eV 10))) (tB (eOp oNe (eCallK (fdn 2 (fn_fits)) (fun l => match l with | [a, b] => [b, a] | _ => []) (aCons (eV 8) (aCons (eV 9) (aNil)))) (eV 10))))) (sRet (eC (.bl false))) (sNil)))) Δ ⟨ρ, μ⟩ := propext Iff.rfl
def B_law_3 : PhiS :=
  sSeq (sSet 7 (eCall (fdn 2 (fn_p_law_one)) [] (aCons (eV 1) (aCons (eTup (aCons (eC (.int 1)) (aCons (eC (.int 2)) (aCons (eC (.int 3)) (aCons (eC (.int 5)) (aCons (eC (.int 9)) (aCons (eC (.int 20)) (aCons (eC (.int 59)) (aCons (eC (.int 60)) (aNil)))))))))) (aNil)))))
  (sSeq (sSet 8 (eCallL (fdn 4 (fn_p_law_selector 70)) [] (lCons (eV 1) (lCons (eV 7) (lCons (eV 2) (lCons (eV 4) (lNil)))))))
  (sFor (iE (eV 5)) (gN 9) (B_law_2)))
theorem B_law_3_eq {Δ : DE} {ρ : List Sl} {μ : Mu} : B_law_3 Δ ⟨ρ, μ⟩ = (sSeq (sSet 7 (eCall (fdn 2 (fn_p_law_one)) [] (aCons (eV 1) (aCons (eTup (aCons (eC (.int 1)) (aCons (eC (.int 2)) (aCons (eC (.int 3)) (aCons (eC (.int 5)) (aCons (eC (.int 9)) (aCons (eC (.int 20)) (aCons (eC (.int 59)) (aCons (eC (.int 60)) (aNil)))))))))) (aNil)))))
  (sSeq (sSet 8 (eCallL (fdn 4 (fn_p_law_selector 70)) [] (lCons (eV 1) (lCons (eV 7) (lCons (eV 2) (lCons (eV 4) (lNil)))))))
  (sFor (iE (eV 5)) (gN 9) (B_law_2)))) Δ ⟨ρ, μ⟩ := propext Iff.rfl
def Φ_law : PhiS :=
  sSeq (sSet 1 (eCall (fdn 1 (fn_p_law_dealer)) [] (aCons (eV 0) (aNil))))
  (sSeq (sSet 2 (eCall (fdn 2 (fn_p_law_pool)) [] (aCons (eV 1) (aCons (eC (.int 4)) (aNil)))))
  (sSeq (sFor (iE (eTup (aCons (eC (.str "any")) (aCons (eC (.str "not")) (aCons (eC (.str "has")) (aCons (eC (.str "on")) (aNil))))))) (gN 3) (B_law_0))
  (sSeq (sSet 4 (eOp oAdd (eCall (fdn 2 (fn_p_law_pool)) [] (aCons (eV 1) (aCons (eC (.int 5)) (aNil)))) (eSl (eV 2) (pNone) (pSome (eC (.int 1))))))
  (sSeq (sSet 4 (eUn oSortSet (eV 4)))
  (sSeq (sSet 5 (eOp oAdd (eLc (iR1 (aCons (eC (.int 4)) (aNil))) [6] (gN 6) (fun s R => R true s) (E_law_1)) (eLst (aCons (eTup (aNil)) (aNil)))))
  (sSeq (sFor (iR1 (aCons (eC (.int 3)) (aNil))) (gN 6) (B_law_3))
  (sRet (eC (.bl true)))))))))
def fn_law : FD := body 12 Φ_law
end K04
namespace K04
open PySem PySem.Spec PyProof.Rows L2 DL
def smallS : Str := "abcdefghijklmnopqrstuvwxyz"
def signS : Str := "abcdefghijklmnopqrstuvwxyzABCDEFGHIJKLMNOPQRSTUVWXYZ0123456789_"
/-- a name -/
structure Nm (x : Str) : Prop where
  hd : ∃ c r, x.cps.toList = c :: r ∧ c ∈ smallS.cps.toList
  all : ∀ c ∈ x.cps.toList, c ∈ signS.cps.toList
  few : x.cps.toList.length < 500
theorem Nm.len {x : Str} (h : Nm x) : x.length ≤ sizeLine := by
  have := h.few
  have e : x.length = x.cps.toList.length := by show x.cps.size = _; simp
  have : (500 : Nat) < sizeLine := by decide
  omega
theorem inSign {c : Nat} {z : Str} {f : Bool → Bool} {R : Sl → Prop} : oIn f (.str ⟨#[c]⟩) (.str z) R = R (.d (.bl (f (decide (c ∈ z.cps.toList))))) := propext Iff.rfl
section
variable {μ : Mu} {R : Sl → Mu → Prop} {w : D} {Δ : DE}
theorem name_loop : ∀ (cs : List Nat) (x : Sl), (∀ c ∈ cs, c ∈ signS.cps.toList) → (∀ y, Δ.nx ⟨[.d w, y], μ⟩) → forL (gN 1) B_is_name_0 Δ (cs.map fun c => D.str ⟨#[c]⟩) ⟨[.d w, x], μ⟩
  | [], x, _, h => h x
  | c :: cs, x, hc, h => by
    have ih := name_loop cs (.d (.str ⟨#[c]⟩)) (fun d hd => hc d (List.mem_cons_of_mem _ hd)) h
    have h1 := hc c (List.mem_cons_self ..)
    unfold signS at h1
    simp only [List.map_cons, forL_cons, B_is_name_0_eq, xEq_ii, xEq_ss, xEq_nn, xEq_bb, xEq_ni, xEq_in, xNe_ii, xNe_ss, xLt_ii, xGt_ii, xLe_ii, xGe_ii, xAdd_ii, xAdd_ss, xAdd_tt, xAdd_ll, xSub_ii, xMul_ii, xDiv_ii, xMod_ii, xPow_ii, xNeg_i, xInt_i, xInt_b, xLen_t, xLen_l, xLen_s, xLen_d, xTuple_l, xTuple_t, xList_l, xList_t, xIx_t, xIx_l, xIx_s, xIx_di, xIx_ds, at0, at1, at2, at3, at4, at5, at6, at7, xIs_nn, xIs_i, xIs_s, xIs_b, xIs_t, xIs_l, xIs_d, xIsB_n, xIsB_i, xIsB_s, xIsB_b, yInt_i, yInt_b, yInt_n, yInt_s, yInt_t, yInt_l, yBool_i, yBool_b, yBool_n, yBool_s, yBool_t, yBool_l, yStr_i, yStr_b, yStr_n, yStr_s, yStr_t, yStr_l, yTup_i, yTup_b, yTup_n, yTup_s, yTup_t, yTup_l, yLst_i, yLst_n, yLst_s, yLst_t, yLst_l, xIn_l, xIn_it, xIn_il, xIn_sd, xLt_pp, xGt_pp, xLe_pp, xGe_pp, xII, z0, z1, z2, zput0, zput1, zC, zV, zv_d, zv_l, zv_k, zOp, zUn, zlk_d, zlk_l, zlk_k, zlk_b, zls_d, zls_l, zls_k, zfz_d, zfz_l, zfz_k, zfz_b, zfr_l, zfr_k, zfr_d, ztB, zbk, ztT, ztr_b, ztr_i, ztr_n, ztr_t, ztr_l, ztr_s, ztAnd, ztOr, ztNot, zeAnd, zeOr, zeNot, zeIf, zaNil, zaCons, zTup, zLst, zCB, zCall, zCallK, zfdn, zDicK, zpNone, zpSome, zpsk, zSl, zChain, zchk, zSeq, zsNil, zBreak, zCont, zIf, zSet, zs_d, zs_l, zs_k, zs_b, zRet, zr_d, zr_l, zr_k, zr_b, zRetN, zDrop, zFor, ziE, zit_t, zit_l, zit_s, zR1, zr1, zR2, zr2, zgN, zAsg, zgT, zgsC, zgsN, zApp, zap0, zap, zLc, zclr, zclr2, zbck, zkeep_d, zkeep_n, zDP, zdp0, zdp, zky_i, zky_s, xSorted, xNe_bb, zPop, zpopk, zExt, zextk, zextk2, xUpper, xInW, xIxW, xLt_ss, xLe_ss, xGt_ss, xSl_t, xSl_l, xSl_s, zlNil, zlCons, zpin_d, zpin_l, zpin_k, zpin_b, zlkL0, zlkL1, zCallL, zimm_d, zimm_l, zimm_k, zimm_i, zimm_s, zimm_b, zimm_n, zimm_t, zimm_0, zimm_1, zSortSet, List.length_cons, List.length_nil, List.nil_append, List.append_nil, List.cons_append, true_and, and_true, reduceIte, if_true, if_false, decide_eq_true_eq, Bool.not_true, Bool.not_false, Bool.not_eq_true, Bool.false_eq_true, Nat.reduceAdd, Nat.zero_add, Bool.not_eq_false, decide_false, decide_true, Bool.not_eq_eq_eq_not, Bool.true_eq, decide_not, Bool.not_not, decide_eq_false_iff_not, eq_self, inSign, h1]
    exact ih
theorem is_name_ok {x : Str} (n : Nm x) (h : R (.d (.bl true)) μ) : fn_is_name [.str x] μ R := by
  obtain ⟨c, r, e1, e2⟩ := n.hd
  have hl := n.len
  have e : x.length = x.cps.toList.length := by show x.cps.size = _; simp
  have hne : ((x.length : Int) != 0) = true := by
    rw [e, e1]
    simp
    omega
  have hat : atD x.cps.toList 0 = some c := by rw [e1]; rfl
  unfold smallS at e2
  show Φ_is_name _ ⟨[.d (.str x), .no], μ⟩
  simp only [Φ_is_name, xEq_ii, xEq_ss, xEq_nn, xEq_bb, xEq_ni, xEq_in, xNe_ii, xNe_ss, xLt_ii, xGt_ii, xLe_ii, xGe_ii, xAdd_ii, xAdd_ss, xAdd_tt, xAdd_ll, xSub_ii, xMul_ii, xDiv_ii, xMod_ii, xPow_ii, xNeg_i, xInt_i, xInt_b, xLen_t, xLen_l, xLen_s, xLen_d, xTuple_l, xTuple_t, xList_l, xList_t, xIx_t, xIx_l, xIx_s, xIx_di, xIx_ds, at0, at1, at2, at3, at4, at5, at6, at7, xIs_nn, xIs_i, xIs_s, xIs_b, xIs_t, xIs_l, xIs_d, xIsB_n, xIsB_i, xIsB_s, xIsB_b, yInt_i, yInt_b, yInt_n, yInt_s, yInt_t, yInt_l, yBool_i, yBool_b, yBool_n, yBool_s, yBool_t, yBool_l, yStr_i, yStr_b, yStr_n, yStr_s, yStr_t, yStr_l, yTup_i, yTup_b, yTup_n, yTup_s, yTup_t, yTup_l, yLst_i, yLst_n, yLst_s, yLst_t, yLst_l, xIn_l, xIn_it, xIn_il, xIn_sd, xLt_pp, xGt_pp, xLe_pp, xGe_pp, xII, z0, z1, z2, zput0, zput1, zC, zV, zv_d, zv_l, zv_k, zOp, zUn, zlk_d, zlk_l, zlk_k, zlk_b, zls_d, zls_l, zls_k, zfz_d, zfz_l, zfz_k, zfz_b, zfr_l, zfr_k, zfr_d, ztB, zbk, ztT, ztr_b, ztr_i, ztr_n, ztr_t, ztr_l, ztr_s, ztAnd, ztOr, ztNot, zeAnd, zeOr, zeNot, zeIf, zaNil, zaCons, zTup, zLst, zCB, zCall, zCallK, zfdn, zDicK, zpNone, zpSome, zpsk, zSl, zChain, zchk, zSeq, zsNil, zBreak, zCont, zIf, zSet, zs_d, zs_l, zs_k, zs_b, zRet, zr_d, zr_l, zr_k, zr_b, zRetN, zDrop, zFor, ziE, zit_t, zit_l, zit_s, zR1, zr1, zR2, zr2, zgN, zAsg, zgT, zgsC, zgsN, zApp, zap0, zap, zLc, zclr, zclr2, zbck, zkeep_d, zkeep_n, zDP, zdp0, zdp, zky_i, zky_s, xSorted, xNe_bb, zPop, zpopk, zExt, zextk, zextk2, xUpper, xInW, xIxW, xLt_ss, xLe_ss, xGt_ss, xSl_t, xSl_l, xSl_s, zlNil, zlCons, zpin_d, zpin_l, zpin_k, zpin_b, zlkL0, zlkL1, zCallL, zimm_d, zimm_l, zimm_k, zimm_i, zimm_s, zimm_b, zimm_n, zimm_t, zimm_0, zimm_1, zSortSet, List.length_cons, List.length_nil, List.nil_append, List.append_nil, List.cons_append, true_and, and_true, reduceIte, if_true, if_false, decide_eq_true_eq, Bool.not_true, Bool.not_false, Bool.not_eq_true, Bool.false_eq_true, Nat.reduceAdd, Nat.zero_add, Bool.not_eq_false, decide_false, decide_true, Bool.not_eq_eq_eq_not, Bool.true_eq, decide_not, Bool.not_not, decide_eq_false_iff_not, eq_self, hne, hl, hat, inSign, e2]
  refine name_loop x.cps.toList _ n.all fun y => ?_
  simp only [xEq_ii, xEq_ss, xEq_nn, xEq_bb, xEq_ni, xEq_in, xNe_ii, xNe_ss, xLt_ii, xGt_ii, xLe_ii, xGe_ii, xAdd_ii, xAdd_ss, xAdd_tt, xAdd_ll, xSub_ii, xMul_ii, xDiv_ii, xMod_ii, xPow_ii, xNeg_i, xInt_i, xInt_b, xLen_t, xLen_l, xLen_s, xLen_d, xTuple_l, xTuple_t, xList_l, xList_t, xIx_t, xIx_l, xIx_s, xIx_di, xIx_ds, at0, at1, at2, at3, at4, at5, at6, at7, xIs_nn, xIs_i, xIs_s, xIs_b, xIs_t, xIs_l, xIs_d, xIsB_n, xIsB_i, xIsB_s, xIsB_b, yInt_i, yInt_b, yInt_n, yInt_s, yInt_t, yInt_l, yBool_i, yBool_b, yBool_n, yBool_s, yBool_t, yBool_l, yStr_i, yStr_b, yStr_n, yStr_s, yStr_t, yStr_l, yTup_i, yTup_b, yTup_n, yTup_s, yTup_t, yTup_l, yLst_i, yLst_n, yLst_s, yLst_t, yLst_l, xIn_l, xIn_it, xIn_il, xIn_sd, xLt_pp, xGt_pp, xLe_pp, xGe_pp, xII, z0, z1, z2, zput0, zput1, zC, zV, zv_d, zv_l, zv_k, zOp, zUn, zlk_d, zlk_l, zlk_k, zlk_b, zls_d, zls_l, zls_k, zfz_d, zfz_l, zfz_k, zfz_b, zfr_l, zfr_k, zfr_d, ztB, zbk, ztT, ztr_b, ztr_i, ztr_n, ztr_t, ztr_l, ztr_s, ztAnd, ztOr, ztNot, zeAnd, zeOr, zeNot, zeIf, zaNil, zaCons, zTup, zLst, zCB, zCall, zCallK, zfdn, zDicK, zpNone, zpSome, zpsk, zSl, zChain, zchk, zSeq, zsNil, zBreak, zCont, zIf, zSet, zs_d, zs_l, zs_k, zs_b, zRet, zr_d, zr_l, zr_k, zr_b, zRetN, zDrop, zFor, ziE, zit_t, zit_l, zit_s, zR1, zr1, zR2, zr2, zgN, zAsg, zgT, zgsC, zgsN, zApp, zap0, zap, zLc, zclr, zclr2, zbck, zkeep_d, zkeep_n, zDP, zdp0, zdp, zky_i, zky_s, xSorted, xNe_bb, zPop, zpopk, zExt, zextk, zextk2, xUpper, xInW, xIxW, xLt_ss, xLe_ss, xGt_ss, xSl_t, xSl_l, xSl_s, zlNil, zlCons, zpin_d, zpin_l, zpin_k, zpin_b, zlkL0, zlkL1, zCallL, zimm_d, zimm_l, zimm_k, zimm_i, zimm_s, zimm_b, zimm_n, zimm_t, zimm_0, zimm_1, zSortSet, List.length_cons, List.length_nil, List.nil_append, List.append_nil, List.cons_append, true_and, and_true, reduceIte, if_true, if_false, decide_eq_true_eq, Bool.not_true, Bool.not_false, Bool.not_eq_true, Bool.false_eq_true, Nat.reduceAdd, Nat.zero_add, Bool.not_eq_false, decide_false, decide_true, Bool.not_eq_eq_eq_not, Bool.true_eq, decide_not, Bool.not_not, decide_eq_false_iff_not, eq_self]
  exact h
/-! rows of names -/
structure Row (xs : List Str) : Prop where
  ne : xs ≠ []
  nm : ∀ x ∈ xs, Nm x
  asc : xs.Pairwise fun a b => slt a b = true
  few : xs.length < 1000
theorem at_strs {xs : List Str} {i : Nat} {x : Str} (h : xs[i]? = some x) : atD (xs.map D.str) (i : Int) = some (.str x) := by
  rw [atD_nat, List.getElem?_map, h]
  rfl
theorem asc_loop {xs : List Str} (ha : xs.Pairwise fun a b => slt a b = true) : ∀ (n i : Nat) (y : Sl), 1 ≤ i → i + n = max 1 xs.length → (∀ y, Δ.nx ⟨[.d (.tup (xs.map D.str)), y], μ⟩) →
    forL (gN 1) B_is_ascending_0 Δ ((List.range' i n).map fun j : Nat => D.int (j : Int)) ⟨[.d (.tup (xs.map D.str)), y], μ⟩
  | 0, i, y, _, _, h => h y
  | n + 1, i, y, h1, hi, h => by
    have ih := asc_loop ha n (i + 1) (.d (.int i)) (by omega) (by omega) h
    have lt : i < xs.length := by omega
    have lt' : i - 1 < xs.length := by omega
    have a1 : atD (xs.map D.str) ((i : Int) - 1) = some (.str xs[i - 1]) := by
      rw [show (i : Int) - 1 = ((i - 1 : Nat) : Int) from by omega]
      exact at_strs (List.getElem?_eq_getElem lt')
    have a2 : atD (xs.map D.str) (i : Int) = some (.str xs[i]) := at_strs (List.getElem?_eq_getElem lt)
    have a3 : slt xs[i - 1] xs[i] = true := List.pairwise_iff_getElem.mp ha (i - 1) i lt' lt (by omega)
    rw [List.range'_succ, List.map_cons]
    simp only [forL_cons, B_is_ascending_0_eq, xEq_ii, xEq_ss, xEq_nn, xEq_bb, xEq_ni, xEq_in, xNe_ii, xNe_ss, xLt_ii, xGt_ii, xLe_ii, xGe_ii, xAdd_ii, xAdd_ss, xAdd_tt, xAdd_ll, xSub_ii, xMul_ii, xDiv_ii, xMod_ii, xPow_ii, xNeg_i, xInt_i, xInt_b, xLen_t, xLen_l, xLen_s, xLen_d, xTuple_l, xTuple_t, xList_l, xList_t, xIx_t, xIx_l, xIx_s, xIx_di, xIx_ds, at0, at1, at2, at3, at4, at5, at6, at7, xIs_nn, xIs_i, xIs_s, xIs_b, xIs_t, xIs_l, xIs_d, xIsB_n, xIsB_i, xIsB_s, xIsB_b, yInt_i, yInt_b, yInt_n, yInt_s, yInt_t, yInt_l, yBool_i, yBool_b, yBool_n, yBool_s, yBool_t, yBool_l, yStr_i, yStr_b, yStr_n, yStr_s, yStr_t, yStr_l, yTup_i, yTup_b, yTup_n, yTup_s, yTup_t, yTup_l, yLst_i, yLst_n, yLst_s, yLst_t, yLst_l, xIn_l, xIn_it, xIn_il, xIn_sd, xLt_pp, xGt_pp, xLe_pp, xGe_pp, xII, z0, z1, z2, zput0, zput1, zC, zV, zv_d, zv_l, zv_k, zOp, zUn, zlk_d, zlk_l, zlk_k, zlk_b, zls_d, zls_l, zls_k, zfz_d, zfz_l, zfz_k, zfz_b, zfr_l, zfr_k, zfr_d, ztB, zbk, ztT, ztr_b, ztr_i, ztr_n, ztr_t, ztr_l, ztr_s, ztAnd, ztOr, ztNot, zeAnd, zeOr, zeNot, zeIf, zaNil, zaCons, zTup, zLst, zCB, zCall, zCallK, zfdn, zDicK, zpNone, zpSome, zpsk, zSl, zChain, zchk, zSeq, zsNil, zBreak, zCont, zIf, zSet, zs_d, zs_l, zs_k, zs_b, zRet, zr_d, zr_l, zr_k, zr_b, zRetN, zDrop, zFor, ziE, zit_t, zit_l, zit_s, zR1, zr1, zR2, zr2, zgN, zAsg, zgT, zgsC, zgsN, zApp, zap0, zap, zLc, zclr, zclr2, zbck, zkeep_d, zkeep_n, zDP, zdp0, zdp, zky_i, zky_s, xSorted, xNe_bb, zPop, zpopk, zExt, zextk, zextk2, xUpper, xInW, xIxW, xLt_ss, xLe_ss, xGt_ss, xSl_t, xSl_l, xSl_s, zlNil, zlCons, zpin_d, zpin_l, zpin_k, zpin_b, zlkL0, zlkL1, zCallL, zimm_d, zimm_l, zimm_k, zimm_i, zimm_s, zimm_b, zimm_n, zimm_t, zimm_0, zimm_1, zSortSet, List.length_cons, List.length_nil, List.nil_append, List.append_nil, List.cons_append, true_and, and_true, reduceIte, if_true, if_false, decide_eq_true_eq, Bool.not_true, Bool.not_false, Bool.not_eq_true, Bool.false_eq_true, Nat.reduceAdd, Nat.zero_add, Bool.not_eq_false, decide_false, decide_true, Bool.not_eq_eq_eq_not, Bool.true_eq, decide_not, Bool.not_not, decide_eq_false_iff_not, eq_self, a1, a2, a3]
    exact ih
theorem row_loop {w : D} : ∀ (xs : List Str) (y : Sl), (∀ x ∈ xs, Nm x) → (∀ y, Δ.nx ⟨[.d w, y], μ⟩) → forL (gN 1) B_is_row_of_names_0 Δ (xs.map D.str) ⟨[.d w, y], μ⟩
  | [], y, _, h => h y
  | x :: xs, y, hn, h => by
    have ih := row_loop xs (.d (.str x)) (fun z hz => hn z (List.mem_cons_of_mem _ hz)) h
    simp only [List.map_cons, forL_cons, B_is_row_of_names_0_eq, xEq_ii, xEq_ss, xEq_nn, xEq_bb, xEq_ni, xEq_in, xNe_ii, xNe_ss, xLt_ii, xGt_ii, xLe_ii, xGe_ii, xAdd_ii, xAdd_ss, xAdd_tt, xAdd_ll, xSub_ii, xMul_ii, xDiv_ii, xMod_ii, xPow_ii, xNeg_i, xInt_i, xInt_b, xLen_t, xLen_l, xLen_s, xLen_d, xTuple_l, xTuple_t, xList_l, xList_t, xIx_t, xIx_l, xIx_s, xIx_di, xIx_ds, at0, at1, at2, at3, at4, at5, at6, at7, xIs_nn, xIs_i, xIs_s, xIs_b, xIs_t, xIs_l, xIs_d, xIsB_n, xIsB_i, xIsB_s, xIsB_b, yInt_i, yInt_b, yInt_n, yInt_s, yInt_t, yInt_l, yBool_i, yBool_b, yBool_n, yBool_s, yBool_t, yBool_l, yStr_i, yStr_b, yStr_n, yStr_s, yStr_t, yStr_l, yTup_i, yTup_b, yTup_n, yTup_s, yTup_t, yTup_l, yLst_i, yLst_n, yLst_s, yLst_t, yLst_l, xIn_l, xIn_it, xIn_il, xIn_sd, xLt_pp, xGt_pp, xLe_pp, xGe_pp, xII, z0, z1, z2, zput0, zput1, zC, zV, zv_d, zv_l, zv_k, zOp, zUn, zlk_d, zlk_l, zlk_k, zlk_b, zls_d, zls_l, zls_k, zfz_d, zfz_l, zfz_k, zfz_b, zfr_l, zfr_k, zfr_d, ztB, zbk, ztT, ztr_b, ztr_i, ztr_n, ztr_t, ztr_l, ztr_s, ztAnd, ztOr, ztNot, zeAnd, zeOr, zeNot, zeIf, zaNil, zaCons, zTup, zLst, zCB, zCall, zCallK, zfdn, zDicK, zpNone, zpSome, zpsk, zSl, zChain, zchk, zSeq, zsNil, zBreak, zCont, zIf, zSet, zs_d, zs_l, zs_k, zs_b, zRet, zr_d, zr_l, zr_k, zr_b, zRetN, zDrop, zFor, ziE, zit_t, zit_l, zit_s, zR1, zr1, zR2, zr2, zgN, zAsg, zgT, zgsC, zgsN, zApp, zap0, zap, zLc, zclr, zclr2, zbck, zkeep_d, zkeep_n, zDP, zdp0, zdp, zky_i, zky_s, xSorted, xNe_bb, zPop, zpopk, zExt, zextk, zextk2, xUpper, xInW, xIxW, xLt_ss, xLe_ss, xGt_ss, xSl_t, xSl_l, xSl_s, zlNil, zlCons, zpin_d, zpin_l, zpin_k, zpin_b, zlkL0, zlkL1, zCallL, zimm_d, zimm_l, zimm_k, zimm_i, zimm_s, zimm_b, zimm_n, zimm_t, zimm_0, zimm_1, zSortSet, List.length_cons, List.length_nil, List.nil_append, List.append_nil, List.cons_append, true_and, and_true, reduceIte, if_true, if_false, decide_eq_true_eq, Bool.not_true, Bool.not_false, Bool.not_eq_true, Bool.false_eq_true, Nat.reduceAdd, Nat.zero_add, Bool.not_eq_false, decide_false, decide_true, Bool.not_eq_eq_eq_not, Bool.true_eq, decide_not, Bool.not_not, decide_eq_false_iff_not, eq_self]
    refine is_name_ok (hn x (List.mem_cons_self ..)) ?_
    simp only [xEq_ii, xEq_ss, xEq_nn, xEq_bb, xEq_ni, xEq_in, xNe_ii, xNe_ss, xLt_ii, xGt_ii, xLe_ii, xGe_ii, xAdd_ii, xAdd_ss, xAdd_tt, xAdd_ll, xSub_ii, xMul_ii, xDiv_ii, xMod_ii, xPow_ii, xNeg_i, xInt_i, xInt_b, xLen_t, xLen_l, xLen_s, xLen_d, xTuple_l, xTuple_t, xList_l, xList_t, xIx_t, xIx_l, xIx_s, xIx_di, xIx_ds, at0, at1, at2, at3, at4, at5, at6, at7, xIs_nn, xIs_i, xIs_s, xIs_b, xIs_t, xIs_l, xIs_d, xIsB_n, xIsB_i, xIsB_s, xIsB_b, yInt_i, yInt_b, yInt_n, yInt_s, yInt_t, yInt_l, yBool_i, yBool_b, yBool_n, yBool_s, yBool_t, yBool_l, yStr_i, yStr_b, yStr_n, yStr_s, yStr_t, yStr_l, yTup_i, yTup_b, yTup_n, yTup_s, yTup_t, yTup_l, yLst_i, yLst_n, yLst_s, yLst_t, yLst_l, xIn_l, xIn_it, xIn_il, xIn_sd, xLt_pp, xGt_pp, xLe_pp, xGe_pp, xII, z0, z1, z2, zput0, zput1, zC, zV, zv_d, zv_l, zv_k, zOp, zUn, zlk_d, zlk_l, zlk_k, zlk_b, zls_d, zls_l, zls_k, zfz_d, zfz_l, zfz_k, zfz_b, zfr_l, zfr_k, zfr_d, ztB, zbk, ztT, ztr_b, ztr_i, ztr_n, ztr_t, ztr_l, ztr_s, ztAnd, ztOr, ztNot, zeAnd, zeOr, zeNot, zeIf, zaNil, zaCons, zTup, zLst, zCB, zCall, zCallK, zfdn, zDicK, zpNone, zpSome, zpsk, zSl, zChain, zchk, zSeq, zsNil, zBreak, zCont, zIf, zSet, zs_d, zs_l, zs_k, zs_b, zRet, zr_d, zr_l, zr_k, zr_b, zRetN, zDrop, zFor, ziE, zit_t, zit_l, zit_s, zR1, zr1, zR2, zr2, zgN, zAsg, zgT, zgsC, zgsN, zApp, zap0, zap, zLc, zclr, zclr2, zbck, zkeep_d, zkeep_n, zDP, zdp0, zdp, zky_i, zky_s, xSorted, xNe_bb, zPop, zpopk, zExt, zextk, zextk2, xUpper, xInW, xIxW, xLt_ss, xLe_ss, xGt_ss, xSl_t, xSl_l, xSl_s, zlNil, zlCons, zpin_d, zpin_l, zpin_k, zpin_b, zlkL0, zlkL1, zCallL, zimm_d, zimm_l, zimm_k, zimm_i, zimm_s, zimm_b, zimm_n, zimm_t, zimm_0, zimm_1, zSortSet, List.length_cons, List.length_nil, List.nil_append, List.append_nil, List.cons_append, true_and, and_true, reduceIte, if_true, if_false, decide_eq_true_eq, Bool.not_true, Bool.not_false, Bool.not_eq_true, Bool.false_eq_true, Nat.reduceAdd, Nat.zero_add, Bool.not_eq_false, decide_false, decide_true, Bool.not_eq_eq_eq_not, Bool.true_eq, decide_not, Bool.not_not, decide_eq_false_iff_not, eq_self]
    exact ih
theorem is_ascending_ok {xs : List Str} (r : Row xs) (h : R (.d (.bl true)) μ) : fn_is_ascending [.tup (xs.map D.str)] μ R := by
  show Φ_is_ascending _ ⟨[.d (.tup (xs.map D.str)), .no], μ⟩
  simp only [Φ_is_ascending, xEq_ii, xEq_ss, xEq_nn, xEq_bb, xEq_ni, xEq_in, xNe_ii, xNe_ss, xLt_ii, xGt_ii, xLe_ii, xGe_ii, xAdd_ii, xAdd_ss, xAdd_tt, xAdd_ll, xSub_ii, xMul_ii, xDiv_ii, xMod_ii, xPow_ii, xNeg_i, xInt_i, xInt_b, xLen_t, xLen_l, xLen_s, xLen_d, xTuple_l, xTuple_t, xList_l, xList_t, xIx_t, xIx_l, xIx_s, xIx_di, xIx_ds, at0, at1, at2, at3, at4, at5, at6, at7, xIs_nn, xIs_i, xIs_s, xIs_b, xIs_t, xIs_l, xIs_d, xIsB_n, xIsB_i, xIsB_s, xIsB_b, yInt_i, yInt_b, yInt_n, yInt_s, yInt_t, yInt_l, yBool_i, yBool_b, yBool_n, yBool_s, yBool_t, yBool_l, yStr_i, yStr_b, yStr_n, yStr_s, yStr_t, yStr_l, yTup_i, yTup_b, yTup_n, yTup_s, yTup_t, yTup_l, yLst_i, yLst_n, yLst_s, yLst_t, yLst_l, xIn_l, xIn_it, xIn_il, xIn_sd, xLt_pp, xGt_pp, xLe_pp, xGe_pp, xII, z0, z1, z2, zput0, zput1, zC, zV, zv_d, zv_l, zv_k, zOp, zUn, zlk_d, zlk_l, zlk_k, zlk_b, zls_d, zls_l, zls_k, zfz_d, zfz_l, zfz_k, zfz_b, zfr_l, zfr_k, zfr_d, ztB, zbk, ztT, ztr_b, ztr_i, ztr_n, ztr_t, ztr_l, ztr_s, ztAnd, ztOr, ztNot, zeAnd, zeOr, zeNot, zeIf, zaNil, zaCons, zTup, zLst, zCB, zCall, zCallK, zfdn, zDicK, zpNone, zpSome, zpsk, zSl, zChain, zchk, zSeq, zsNil, zBreak, zCont, zIf, zSet, zs_d, zs_l, zs_k, zs_b, zRet, zr_d, zr_l, zr_k, zr_b, zRetN, zDrop, zFor, ziE, zit_t, zit_l, zit_s, zR1, zr1, zR2, zr2, zgN, zAsg, zgT, zgsC, zgsN, zApp, zap0, zap, zLc, zclr, zclr2, zbck, zkeep_d, zkeep_n, zDP, zdp0, zdp, zky_i, zky_s, xSorted, xNe_bb, zPop, zpopk, zExt, zextk, zextk2, xUpper, xInW, xIxW, xLt_ss, xLe_ss, xGt_ss, xSl_t, xSl_l, xSl_s, zlNil, zlCons, zpin_d, zpin_l, zpin_k, zpin_b, zlkL0, zlkL1, zCallL, zimm_d, zimm_l, zimm_k, zimm_i, zimm_s, zimm_b, zimm_n, zimm_t, zimm_0, zimm_1, zSortSet, List.length_cons, List.length_nil, List.nil_append, List.append_nil, List.cons_append, true_and, and_true, reduceIte, if_true, if_false, decide_eq_true_eq, Bool.not_true, Bool.not_false, Bool.not_eq_true, Bool.false_eq_true, Nat.reduceAdd, Nat.zero_add, Bool.not_eq_false, decide_false, decide_true, Bool.not_eq_eq_eq_not, Bool.true_eq, decide_not, Bool.not_not, decide_eq_false_iff_not, eq_self, List.length_map]
  have hf := r.few
  have hp : 0 < xs.length := by
    cases xs with
    | nil => exact absurd rfl r.ne
    | cons a l => simp
  refine ⟨by omega, ?_⟩
  have e : rng 1 ((xs.length : Int) - 1).toNat = (List.range' 1 (xs.length - 1)).map fun j : Nat => D.int (j : Int) := by
    unfold rng
    rw [show ((xs.length : Int) - 1).toNat = xs.length - 1 from by omega]
    refine List.ext_getElem (by simp) fun i h1 h2 => ?_
    simp [List.getElem_range']
  rw [e]
  refine asc_loop r.asc (xs.length - 1) 1 _ (Nat.le_refl _) (by omega) fun y => ?_
  simp only [xEq_ii, xEq_ss, xEq_nn, xEq_bb, xEq_ni, xEq_in, xNe_ii, xNe_ss, xLt_ii, xGt_ii, xLe_ii, xGe_ii, xAdd_ii, xAdd_ss, xAdd_tt, xAdd_ll, xSub_ii, xMul_ii, xDiv_ii, xMod_ii, xPow_ii, xNeg_i, xInt_i, xInt_b, xLen_t, xLen_l, xLen_s, xLen_d, xTuple_l, xTuple_t, xList_l, xList_t, xIx_t, xIx_l, xIx_s, xIx_di, xIx_ds, at0, at1, at2, at3, at4, at5, at6, at7, xIs_nn, xIs_i, xIs_s, xIs_b, xIs_t, xIs_l, xIs_d, xIsB_n, xIsB_i, xIsB_s, xIsB_b, yInt_i, yInt_b, yInt_n, yInt_s, yInt_t, yInt_l, yBool_i, yBool_b, yBool_n, yBool_s, yBool_t, yBool_l, yStr_i, yStr_b, yStr_n, yStr_s, yStr_t, yStr_l, yTup_i, yTup_b, yTup_n, yTup_s, yTup_t, yTup_l, yLst_i, yLst_n, yLst_s, yLst_t, yLst_l, xIn_l, xIn_it, xIn_il, xIn_sd, xLt_pp, xGt_pp, xLe_pp, xGe_pp, xII, z0, z1, z2, zput0, zput1, zC, zV, zv_d, zv_l, zv_k, zOp, zUn, zlk_d, zlk_l, zlk_k, zlk_b, zls_d, zls_l, zls_k, zfz_d, zfz_l, zfz_k, zfz_b, zfr_l, zfr_k, zfr_d, ztB, zbk, ztT, ztr_b, ztr_i, ztr_n, ztr_t, ztr_l, ztr_s, ztAnd, ztOr, ztNot, zeAnd, zeOr, zeNot, zeIf, zaNil, zaCons, zTup, zLst, zCB, zCall, zCallK, zfdn, zDicK, zpNone, zpSome, zpsk, zSl, zChain, zchk, zSeq, zsNil, zBreak, zCont, zIf, zSet, zs_d, zs_l, zs_k, zs_b, zRet, zr_d, zr_l, zr_k, zr_b, zRetN, zDrop, zFor, ziE, zit_t, zit_l, zit_s, zR1, zr1, zR2, zr2, zgN, zAsg, zgT, zgsC, zgsN, zApp, zap0, zap, zLc, zclr, zclr2, zbck, zkeep_d, zkeep_n, zDP, zdp0, zdp, zky_i, zky_s, xSorted, xNe_bb, zPop, zpopk, zExt, zextk, zextk2, xUpper, xInW, xIxW, xLt_ss, xLe_ss, xGt_ss, xSl_t, xSl_l, xSl_s, zlNil, zlCons, zpin_d, zpin_l, zpin_k, zpin_b, zlkL0, zlkL1, zCallL, zimm_d, zimm_l, zimm_k, zimm_i, zimm_s, zimm_b, zimm_n, zimm_t, zimm_0, zimm_1, zSortSet, List.length_cons, List.length_nil, List.nil_append, List.append_nil, List.cons_append, true_and, and_true, reduceIte, if_true, if_false, decide_eq_true_eq, Bool.not_true, Bool.not_false, Bool.not_eq_true, Bool.false_eq_true, Nat.reduceAdd, Nat.zero_add, Bool.not_eq_false, decide_false, decide_true, Bool.not_eq_eq_eq_not, Bool.true_eq, decide_not, Bool.not_not, decide_eq_false_iff_not, eq_self]
  exact h
theorem is_row_ok {xs : List Str} (r : Row xs) (h : R (.d (.bl true)) μ) : fn_is_row_of_names [.tup (xs.map D.str)] μ R := by
  have e : (xs.map D.str).isEmpty = false := by
    cases xs with
    | nil => exact absurd rfl r.ne
    | cons a l => rfl
  show Φ_is_row_of_names _ ⟨[.d (.tup (xs.map D.str)), .no], μ⟩
  simp only [Φ_is_row_of_names, xEq_ii, xEq_ss, xEq_nn, xEq_bb, xEq_ni, xEq_in, xNe_ii, xNe_ss, xLt_ii, xGt_ii, xLe_ii, xGe_ii, xAdd_ii, xAdd_ss, xAdd_tt, xAdd_ll, xSub_ii, xMul_ii, xDiv_ii, xMod_ii, xPow_ii, xNeg_i, xInt_i, xInt_b, xLen_t, xLen_l, xLen_s, xLen_d, xTuple_l, xTuple_t, xList_l, xList_t, xIx_t, xIx_l, xIx_s, xIx_di, xIx_ds, at0, at1, at2, at3, at4, at5, at6, at7, xIs_nn, xIs_i, xIs_s, xIs_b, xIs_t, xIs_l, xIs_d, xIsB_n, xIsB_i, xIsB_s, xIsB_b, yInt_i, yInt_b, yInt_n, yInt_s, yInt_t, yInt_l, yBool_i, yBool_b, yBool_n, yBool_s, yBool_t, yBool_l, yStr_i, yStr_b, yStr_n, yStr_s, yStr_t, yStr_l, yTup_i, yTup_b, yTup_n, yTup_s, yTup_t, yTup_l, yLst_i, yLst_n, yLst_s, yLst_t, yLst_l, xIn_l, xIn_it, xIn_il, xIn_sd, xLt_pp, xGt_pp, xLe_pp, xGe_pp, xII, z0, z1, z2, zput0, zput1, zC, zV, zv_d, zv_l, zv_k, zOp, zUn, zlk_d, zlk_l, zlk_k, zlk_b, zls_d, zls_l, zls_k, zfz_d, zfz_l, zfz_k, zfz_b, zfr_l, zfr_k, zfr_d, ztB, zbk, ztT, ztr_b, ztr_i, ztr_n, ztr_t, ztr_l, ztr_s, ztAnd, ztOr, ztNot, zeAnd, zeOr, zeNot, zeIf, zaNil, zaCons, zTup, zLst, zCB, zCall, zCallK, zfdn, zDicK, zpNone, zpSome, zpsk, zSl, zChain, zchk, zSeq, zsNil, zBreak, zCont, zIf, zSet, zs_d, zs_l, zs_k, zs_b, zRet, zr_d, zr_l, zr_k, zr_b, zRetN, zDrop, zFor, ziE, zit_t, zit_l, zit_s, zR1, zr1, zR2, zr2, zgN, zAsg, zgT, zgsC, zgsN, zApp, zap0, zap, zLc, zclr, zclr2, zbck, zkeep_d, zkeep_n, zDP, zdp0, zdp, zky_i, zky_s, xSorted, xNe_bb, zPop, zpopk, zExt, zextk, zextk2, xUpper, xInW, xIxW, xLt_ss, xLe_ss, xGt_ss, xSl_t, xSl_l, xSl_s, zlNil, zlCons, zpin_d, zpin_l, zpin_k, zpin_b, zlkL0, zlkL1, zCallL, zimm_d, zimm_l, zimm_k, zimm_i, zimm_s, zimm_b, zimm_n, zimm_t, zimm_0, zimm_1, zSortSet, List.length_cons, List.length_nil, List.nil_append, List.append_nil, List.cons_append, true_and, and_true, reduceIte, if_true, if_false, decide_eq_true_eq, Bool.not_true, Bool.not_false, Bool.not_eq_true, Bool.false_eq_true, Nat.reduceAdd, Nat.zero_add, Bool.not_eq_false, decide_false, decide_true, Bool.not_eq_eq_eq_not, Bool.true_eq, decide_not, Bool.not_not, decide_eq_false_iff_not, eq_self, e]
  refine row_loop xs _ r.nm fun y => ?_
  simp only [xEq_ii, xEq_ss, xEq_nn, xEq_bb, xEq_ni, xEq_in, xNe_ii, xNe_ss, xLt_ii, xGt_ii, xLe_ii, xGe_ii, xAdd_ii, xAdd_ss, xAdd_tt, xAdd_ll, xSub_ii, xMul_ii, xDiv_ii, xMod_ii, xPow_ii, xNeg_i, xInt_i, xInt_b, xLen_t, xLen_l, xLen_s, xLen_d, xTuple_l, xTuple_t, xList_l, xList_t, xIx_t, xIx_l, xIx_s, xIx_di, xIx_ds, at0, at1, at2, at3, at4, at5, at6, at7, xIs_nn, xIs_i, xIs_s, xIs_b, xIs_t, xIs_l, xIs_d, xIsB_n, xIsB_i, xIsB_s, xIsB_b, yInt_i, yInt_b, yInt_n, yInt_s, yInt_t, yInt_l, yBool_i, yBool_b, yBool_n, yBool_s, yBool_t, yBool_l, yStr_i, yStr_b, yStr_n, yStr_s, yStr_t, yStr_l, yTup_i, yTup_b, yTup_n, yTup_s, yTup_t, yTup_l, yLst_i, yLst_n, yLst_s, yLst_t, yLst_l, xIn_l, xIn_it, xIn_il, xIn_sd, xLt_pp, xGt_pp, xLe_pp, xGe_pp, xII, z0, z1, z2, zput0, zput1, zC, zV, zv_d, zv_l, zv_k, zOp, zUn, zlk_d, zlk_l, zlk_k, zlk_b, zls_d, zls_l, zls_k, zfz_d, zfz_l, zfz_k, zfz_b, zfr_l, zfr_k, zfr_d, ztB, zbk, ztT, ztr_b, ztr_i, ztr_n, ztr_t, ztr_l, ztr_s, ztAnd, ztOr, ztNot, zeAnd, zeOr, zeNot, zeIf, zaNil, zaCons, zTup, zLst, zCB, zCall, zCallK, zfdn, zDicK, zpNone, zpSome, zpsk, zSl, zChain, zchk, zSeq, zsNil, zBreak, zCont, zIf, zSet, zs_d, zs_l, zs_k, zs_b, zRet, zr_d, zr_l, zr_k, zr_b, zRetN, zDrop, zFor, ziE, zit_t, zit_l, zit_s, zR1, zr1, zR2, zr2, zgN, zAsg, zgT, zgsC, zgsN, zApp, zap0, zap, zLc, zclr, zclr2, zbck, zkeep_d, zkeep_n, zDP, zdp0, zdp, zky_i, zky_s, xSorted, xNe_bb, zPop, zpopk, zExt, zextk, zextk2, xUpper, xInW, xIxW, xLt_ss, xLe_ss, xGt_ss, xSl_t, xSl_l, xSl_s, zlNil, zlCons, zpin_d, zpin_l, zpin_k, zpin_b, zlkL0, zlkL1, zCallL, zimm_d, zimm_l, zimm_k, zimm_i, zimm_s, zimm_b, zimm_n, zimm_t, zimm_0, zimm_1, zSortSet, List.length_cons, List.length_nil, List.nil_append, List.append_nil, List.cons_append, true_and, and_true, reduceIte, if_true, if_false, decide_eq_true_eq, Bool.not_true, Bool.not_false, Bool.not_eq_true, Bool.false_eq_true, Nat.reduceAdd, Nat.zero_add, Bool.not_eq_false, decide_false, decide_true, Bool.not_eq_eq_eq_not, Bool.true_eq, decide_not, Bool.not_not, decide_eq_false_iff_not, eq_self]
  refine is_ascending_ok r ?_
  simp only [xEq_ii, xEq_ss, xEq_nn, xEq_bb, xEq_ni, xEq_in, xNe_ii, xNe_ss, xLt_ii, xGt_ii, xLe_ii, xGe_ii, xAdd_ii, xAdd_ss, xAdd_tt, xAdd_ll, xSub_ii, xMul_ii, xDiv_ii, xMod_ii, xPow_ii, xNeg_i, xInt_i, xInt_b, xLen_t, xLen_l, xLen_s, xLen_d, xTuple_l, xTuple_t, xList_l, xList_t, xIx_t, xIx_l, xIx_s, xIx_di, xIx_ds, at0, at1, at2, at3, at4, at5, at6, at7, xIs_nn, xIs_i, xIs_s, xIs_b, xIs_t, xIs_l, xIs_d, xIsB_n, xIsB_i, xIsB_s, xIsB_b, yInt_i, yInt_b, yInt_n, yInt_s, yInt_t, yInt_l, yBool_i, yBool_b, yBool_n, yBool_s, yBool_t, yBool_l, yStr_i, yStr_b, yStr_n, yStr_s, yStr_t, yStr_l, yTup_i, yTup_b, yTup_n, yTup_s, yTup_t, yTup_l, yLst_i, yLst_n, yLst_s, yLst_t, yLst_l, xIn_l, xIn_it, xIn_il, xIn_sd, xLt_pp, xGt_pp, xLe_pp, xGe_pp, xII, z0, z1, z2, zput0, zput1, zC, zV, zv_d, zv_l, zv_k, zOp, zUn, zlk_d, zlk_l, zlk_k, zlk_b, zls_d, zls_l, zls_k, zfz_d, zfz_l, zfz_k, zfz_b, zfr_l, zfr_k, zfr_d, ztB, zbk, ztT, ztr_b, ztr_i, ztr_n, ztr_t, ztr_l, ztr_s, ztAnd, ztOr, ztNot, zeAnd, zeOr, zeNot, zeIf, zaNil, zaCons, zTup, zLst, zCB, zCall, zCallK, zfdn, zDicK, zpNone, zpSome, zpsk, zSl, zChain, zchk, zSeq, zsNil, zBreak, zCont, zIf, zSet, zs_d, zs_l, zs_k, zs_b, zRet, zr_d, zr_l, zr_k, zr_b, zRetN, zDrop, zFor, ziE, zit_t, zit_l, zit_s, zR1, zr1, zR2, zr2, zgN, zAsg, zgT, zgsC, zgsN, zApp, zap0, zap, zLc, zclr, zclr2, zbck, zkeep_d, zkeep_n, zDP, zdp0, zdp, zky_i, zky_s, xSorted, xNe_bb, zPop, zpopk, zExt, zextk, zextk2, xUpper, xInW, xIxW, xLt_ss, xLe_ss, xGt_ss, xSl_t, xSl_l, xSl_s, zlNil, zlCons, zpin_d, zpin_l, zpin_k, zpin_b, zlkL0, zlkL1, zCallL, zimm_d, zimm_l, zimm_k, zimm_i, zimm_s, zimm_b, zimm_n, zimm_t, zimm_0, zimm_1, zSortSet, List.length_cons, List.length_nil, List.nil_append, List.append_nil, List.cons_append, true_and, and_true, reduceIte, if_true, if_false, decide_eq_true_eq, Bool.not_true, Bool.not_false, Bool.not_eq_true, Bool.false_eq_true, Nat.reduceAdd, Nat.zero_add, Bool.not_eq_false, decide_false, decide_true, Bool.not_eq_eq_eq_not, Bool.true_eq, decide_not, Bool.not_not, decide_eq_false_iff_not, eq_self]
  exact h
/-! series -/
abbrev Pr := Str × Str
def prD (p : Pr) : D := .tup [.str p.1, .str p.2]
structure Ser (ps : List Pr) : Prop where
  nm : ∀ p ∈ ps, Nm p.1 ∧ Nm p.2
  asc : ps.Pairwise fun a b => slt a.1 b.1 = true
  few : ps.length < 100
theorem is_pair_ok {p : Pr} (h1 : Nm p.1) (h2 : Nm p.2) (h : R (.d (.bl true)) μ) : fn_is_pair_of_names [prD p] μ R := by
  show Φ_is_pair_of_names _ ⟨[.d (prD p)], μ⟩
  unfold prD
  simp only [Φ_is_pair_of_names, xEq_ii, xEq_ss, xEq_nn, xEq_bb, xEq_ni, xEq_in, xNe_ii, xNe_ss, xLt_ii, xGt_ii, xLe_ii, xGe_ii, xAdd_ii, xAdd_ss, xAdd_tt, xAdd_ll, xSub_ii, xMul_ii, xDiv_ii, xMod_ii, xPow_ii, xNeg_i, xInt_i, xInt_b, xLen_t, xLen_l, xLen_s, xLen_d, xTuple_l, xTuple_t, xList_l, xList_t, xIx_t, xIx_l, xIx_s, xIx_di, xIx_ds, at0, at1, at2, at3, at4, at5, at6, at7, xIs_nn, xIs_i, xIs_s, xIs_b, xIs_t, xIs_l, xIs_d, xIsB_n, xIsB_i, xIsB_s, xIsB_b, yInt_i, yInt_b, yInt_n, yInt_s, yInt_t, yInt_l, yBool_i, yBool_b, yBool_n, yBool_s, yBool_t, yBool_l, yStr_i, yStr_b, yStr_n, yStr_s, yStr_t, yStr_l, yTup_i, yTup_b, yTup_n, yTup_s, yTup_t, yTup_l, yLst_i, yLst_n, yLst_s, yLst_t, yLst_l, xIn_l, xIn_it, xIn_il, xIn_sd, xLt_pp, xGt_pp, xLe_pp, xGe_pp, xII, z0, z1, z2, zput0, zput1, zC, zV, zv_d, zv_l, zv_k, zOp, zUn, zlk_d, zlk_l, zlk_k, zlk_b, zls_d, zls_l, zls_k, zfz_d, zfz_l, zfz_k, zfz_b, zfr_l, zfr_k, zfr_d, ztB, zbk, ztT, ztr_b, ztr_i, ztr_n, ztr_t, ztr_l, ztr_s, ztAnd, ztOr, ztNot, zeAnd, zeOr, zeNot, zeIf, zaNil, zaCons, zTup, zLst, zCB, zCall, zCallK, zfdn, zDicK, zpNone, zpSome, zpsk, zSl, zChain, zchk, zSeq, zsNil, zBreak, zCont, zIf, zSet, zs_d, zs_l, zs_k, zs_b, zRet, zr_d, zr_l, zr_k, zr_b, zRetN, zDrop, zFor, ziE, zit_t, zit_l, zit_s, zR1, zr1, zR2, zr2, zgN, zAsg, zgT, zgsC, zgsN, zApp, zap0, zap, zLc, zclr, zclr2, zbck, zkeep_d, zkeep_n, zDP, zdp0, zdp, zky_i, zky_s, xSorted, xNe_bb, zPop, zpopk, zExt, zextk, zextk2, xUpper, xInW, xIxW, xLt_ss, xLe_ss, xGt_ss, xSl_t, xSl_l, xSl_s, zlNil, zlCons, zpin_d, zpin_l, zpin_k, zpin_b, zlkL0, zlkL1, zCallL, zimm_d, zimm_l, zimm_k, zimm_i, zimm_s, zimm_b, zimm_n, zimm_t, zimm_0, zimm_1, zSortSet, List.length_cons, List.length_nil, List.nil_append, List.append_nil, List.cons_append, true_and, and_true, reduceIte, if_true, if_false, decide_eq_true_eq, Bool.not_true, Bool.not_false, Bool.not_eq_true, Bool.false_eq_true, Nat.reduceAdd, Nat.zero_add, Bool.not_eq_false, decide_false, decide_true, Bool.not_eq_eq_eq_not, Bool.true_eq, decide_not, Bool.not_not, decide_eq_false_iff_not, eq_self]
  refine is_name_ok h1 ?_
  simp only [xEq_ii, xEq_ss, xEq_nn, xEq_bb, xEq_ni, xEq_in, xNe_ii, xNe_ss, xLt_ii, xGt_ii, xLe_ii, xGe_ii, xAdd_ii, xAdd_ss, xAdd_tt, xAdd_ll, xSub_ii, xMul_ii, xDiv_ii, xMod_ii, xPow_ii, xNeg_i, xInt_i, xInt_b, xLen_t, xLen_l, xLen_s, xLen_d, xTuple_l, xTuple_t, xList_l, xList_t, xIx_t, xIx_l, xIx_s, xIx_di, xIx_ds, at0, at1, at2, at3, at4, at5, at6, at7, xIs_nn, xIs_i, xIs_s, xIs_b, xIs_t, xIs_l, xIs_d, xIsB_n, xIsB_i, xIsB_s, xIsB_b, yInt_i, yInt_b, yInt_n, yInt_s, yInt_t, yInt_l, yBool_i, yBool_b, yBool_n, yBool_s, yBool_t, yBool_l, yStr_i, yStr_b, yStr_n, yStr_s, yStr_t, yStr_l, yTup_i, yTup_b, yTup_n, yTup_s, yTup_t, yTup_l, yLst_i, yLst_n, yLst_s, yLst_t, yLst_l, xIn_l, xIn_it, xIn_il, xIn_sd, xLt_pp, xGt_pp, xLe_pp, xGe_pp, xII, z0, z1, z2, zput0, zput1, zC, zV, zv_d, zv_l, zv_k, zOp, zUn, zlk_d, zlk_l, zlk_k, zlk_b, zls_d, zls_l, zls_k, zfz_d, zfz_l, zfz_k, zfz_b, zfr_l, zfr_k, zfr_d, ztB, zbk, ztT, ztr_b, ztr_i, ztr_n, ztr_t, ztr_l, ztr_s, ztAnd, ztOr, ztNot, zeAnd, zeOr, zeNot, zeIf, zaNil, zaCons, zTup, zLst, zCB, zCall, zCallK, zfdn, zDicK, zpNone, zpSome, zpsk, zSl, zChain, zchk, zSeq, zsNil, zBreak, zCont, zIf, zSet, zs_d, zs_l, zs_k, zs_b, zRet, zr_d, zr_l, zr_k, zr_b, zRetN, zDrop, zFor, ziE, zit_t, zit_l, zit_s, zR1, zr1, zR2, zr2, zgN, zAsg, zgT, zgsC, zgsN, zApp, zap0, zap, zLc, zclr, zclr2, zbck, zkeep_d, zkeep_n, zDP, zdp0, zdp, zky_i, zky_s, xSorted, xNe_bb, zPop, zpopk, zExt, zextk, zextk2, xUpper, xInW, xIxW, xLt_ss, xLe_ss, xGt_ss, xSl_t, xSl_l, xSl_s, zlNil, zlCons, zpin_d, zpin_l, zpin_k, zpin_b, zlkL0, zlkL1, zCallL, zimm_d, zimm_l, zimm_k, zimm_i, zimm_s, zimm_b, zimm_n, zimm_t, zimm_0, zimm_1, zSortSet, List.length_cons, List.length_nil, List.nil_append, List.append_nil, List.cons_append, true_and, and_true, reduceIte, if_true, if_false, decide_eq_true_eq, Bool.not_true, Bool.not_false, Bool.not_eq_true, Bool.false_eq_true, Nat.reduceAdd, Nat.zero_add, Bool.not_eq_false, decide_false, decide_true, Bool.not_eq_eq_eq_not, Bool.true_eq, decide_not, Bool.not_not, decide_eq_false_iff_not, eq_self]
  refine is_name_ok h2 ?_
  simp only [xEq_ii, xEq_ss, xEq_nn, xEq_bb, xEq_ni, xEq_in, xNe_ii, xNe_ss, xLt_ii, xGt_ii, xLe_ii, xGe_ii, xAdd_ii, xAdd_ss, xAdd_tt, xAdd_ll, xSub_ii, xMul_ii, xDiv_ii, xMod_ii, xPow_ii, xNeg_i, xInt_i, xInt_b, xLen_t, xLen_l, xLen_s, xLen_d, xTuple_l, xTuple_t, xList_l, xList_t, xIx_t, xIx_l, xIx_s, xIx_di, xIx_ds, at0, at1, at2, at3, at4, at5, at6, at7, xIs_nn, xIs_i, xIs_s, xIs_b, xIs_t, xIs_l, xIs_d, xIsB_n, xIsB_i, xIsB_s, xIsB_b, yInt_i, yInt_b, yInt_n, yInt_s, yInt_t, yInt_l, yBool_i, yBool_b, yBool_n, yBool_s, yBool_t, yBool_l, yStr_i, yStr_b, yStr_n, yStr_s, yStr_t, yStr_l, yTup_i, yTup_b, yTup_n, yTup_s, yTup_t, yTup_l, yLst_i, yLst_n, yLst_s, yLst_t, yLst_l, xIn_l, xIn_it, xIn_il, xIn_sd, xLt_pp, xGt_pp, xLe_pp, xGe_pp, xII, z0, z1, z2, zput0, zput1, zC, zV, zv_d, zv_l, zv_k, zOp, zUn, zlk_d, zlk_l, zlk_k, zlk_b, zls_d, zls_l, zls_k, zfz_d, zfz_l, zfz_k, zfz_b, zfr_l, zfr_k, zfr_d, ztB, zbk, ztT, ztr_b, ztr_i, ztr_n, ztr_t, ztr_l, ztr_s, ztAnd, ztOr, ztNot, zeAnd, zeOr, zeNot, zeIf, zaNil, zaCons, zTup, zLst, zCB, zCall, zCallK, zfdn, zDicK, zpNone, zpSome, zpsk, zSl, zChain, zchk, zSeq, zsNil, zBreak, zCont, zIf, zSet, zs_d, zs_l, zs_k, zs_b, zRet, zr_d, zr_l, zr_k, zr_b, zRetN, zDrop, zFor, ziE, zit_t, zit_l, zit_s, zR1, zr1, zR2, zr2, zgN, zAsg, zgT, zgsC, zgsN, zApp, zap0, zap, zLc, zclr, zclr2, zbck, zkeep_d, zkeep_n, zDP, zdp0, zdp, zky_i, zky_s, xSorted, xNe_bb, zPop, zpopk, zExt, zextk, zextk2, xUpper, xInW, xIxW, xLt_ss, xLe_ss, xGt_ss, xSl_t, xSl_l, xSl_s, zlNil, zlCons, zpin_d, zpin_l, zpin_k, zpin_b, zlkL0, zlkL1, zCallL, zimm_d, zimm_l, zimm_k, zimm_i, zimm_s, zimm_b, zimm_n, zimm_t, zimm_0, zimm_1, zSortSet, List.length_cons, List.length_nil, List.nil_append, List.append_nil, List.cons_append, true_and, and_true, reduceIte, if_true, if_false, decide_eq_true_eq, Bool.not_true, Bool.not_false, Bool.not_eq_true, Bool.false_eq_true, Nat.reduceAdd, Nat.zero_add, Bool.not_eq_false, decide_false, decide_true, Bool.not_eq_eq_eq_not, Bool.true_eq, decide_not, Bool.not_not, decide_eq_false_iff_not, eq_self]
  exact h
theorem slt_asym {x y : Str} (h : slt x y = true) : slt y x = false := by
  unfold slt at *
  rw [decide_eq_true_eq] at h
  rw [decide_eq_false_iff_not]
  exact fun z => List.lt_irrefl _ (List.lt_trans h z)
def ahD (o : Option Str) : D := match o with
  | none => .non
  | some x => .str x
theorem series_loop : ∀ (ps : List Pr) (ah : Option Str) (y : Sl), (∀ a, ah = some a → ∀ q ∈ ps, slt a q.1 = true) → (ps.Pairwise fun a b => slt a.1 b.1 = true) → (∀ p ∈ ps, Nm p.1 ∧ Nm p.2) → (∀ x y, Δ.nx ⟨[.d w, .d x, y], μ⟩) →
    forL (gN 2) B_is_series_0 Δ (ps.map prD) ⟨[.d w, .d (ahD ah), y], μ⟩
  | [], ah, y, _, _, _, h => h _ _
  | p :: ps, ah, y, h1, h2, h3, h => by
    have ih := series_loop ps (some p.1) (.d (prD p)) (fun a e q hq => by cases e; exact (List.pairwise_cons.mp h2).1 q hq) (List.pairwise_cons.mp h2).2 (fun q hq => h3 q (List.mem_cons_of_mem _ hq)) h
    have nn := h3 p (List.mem_cons_self ..)
    simp only [List.map_cons, forL_cons, B_is_series_0_eq, xEq_ii, xEq_ss, xEq_nn, xEq_bb, xEq_ni, xEq_in, xNe_ii, xNe_ss, xLt_ii, xGt_ii, xLe_ii, xGe_ii, xAdd_ii, xAdd_ss, xAdd_tt, xAdd_ll, xSub_ii, xMul_ii, xDiv_ii, xMod_ii, xPow_ii, xNeg_i, xInt_i, xInt_b, xLen_t, xLen_l, xLen_s, xLen_d, xTuple_l, xTuple_t, xList_l, xList_t, xIx_t, xIx_l, xIx_s, xIx_di, xIx_ds, at0, at1, at2, at3, at4, at5, at6, at7, xIs_nn, xIs_i, xIs_s, xIs_b, xIs_t, xIs_l, xIs_d, xIsB_n, xIsB_i, xIsB_s, xIsB_b, yInt_i, yInt_b, yInt_n, yInt_s, yInt_t, yInt_l, yBool_i, yBool_b, yBool_n, yBool_s, yBool_t, yBool_l, yStr_i, yStr_b, yStr_n, yStr_s, yStr_t, yStr_l, yTup_i, yTup_b, yTup_n, yTup_s, yTup_t, yTup_l, yLst_i, yLst_n, yLst_s, yLst_t, yLst_l, xIn_l, xIn_it, xIn_il, xIn_sd, xLt_pp, xGt_pp, xLe_pp, xGe_pp, xII, z0, z1, z2, zput0, zput1, zC, zV, zv_d, zv_l, zv_k, zOp, zUn, zlk_d, zlk_l, zlk_k, zlk_b, zls_d, zls_l, zls_k, zfz_d, zfz_l, zfz_k, zfz_b, zfr_l, zfr_k, zfr_d, ztB, zbk, ztT, ztr_b, ztr_i, ztr_n, ztr_t, ztr_l, ztr_s, ztAnd, ztOr, ztNot, zeAnd, zeOr, zeNot, zeIf, zaNil, zaCons, zTup, zLst, zCB, zCall, zCallK, zfdn, zDicK, zpNone, zpSome, zpsk, zSl, zChain, zchk, zSeq, zsNil, zBreak, zCont, zIf, zSet, zs_d, zs_l, zs_k, zs_b, zRet, zr_d, zr_l, zr_k, zr_b, zRetN, zDrop, zFor, ziE, zit_t, zit_l, zit_s, zR1, zr1, zR2, zr2, zgN, zAsg, zgT, zgsC, zgsN, zApp, zap0, zap, zLc, zclr, zclr2, zbck, zkeep_d, zkeep_n, zDP, zdp0, zdp, zky_i, zky_s, xSorted, xNe_bb, zPop, zpopk, zExt, zextk, zextk2, xUpper, xInW, xIxW, xLt_ss, xLe_ss, xGt_ss, xSl_t, xSl_l, xSl_s, zlNil, zlCons, zpin_d, zpin_l, zpin_k, zpin_b, zlkL0, zlkL1, zCallL, zimm_d, zimm_l, zimm_k, zimm_i, zimm_s, zimm_b, zimm_n, zimm_t, zimm_0, zimm_1, zSortSet, List.length_cons, List.length_nil, List.nil_append, List.append_nil, List.cons_append, true_and, and_true, reduceIte, if_true, if_false, decide_eq_true_eq, Bool.not_true, Bool.not_false, Bool.not_eq_true, Bool.false_eq_true, Nat.reduceAdd, Nat.zero_add, Bool.not_eq_false, decide_false, decide_true, Bool.not_eq_eq_eq_not, Bool.true_eq, decide_not, Bool.not_not, decide_eq_false_iff_not, eq_self]
    refine is_pair_ok nn.1 nn.2 ?_
    rw [show prD p = .tup [.str p.1, .str p.2] from rfl] at ih ⊢
    cases ah with
    | none =>
      simp only [xEq_ii, xEq_ss, xEq_nn, xEq_bb, xEq_ni, xEq_in, xNe_ii, xNe_ss, xLt_ii, xGt_ii, xLe_ii, xGe_ii, xAdd_ii, xAdd_ss, xAdd_tt, xAdd_ll, xSub_ii, xMul_ii, xDiv_ii, xMod_ii, xPow_ii, xNeg_i, xInt_i, xInt_b, xLen_t, xLen_l, xLen_s, xLen_d, xTuple_l, xTuple_t, xList_l, xList_t, xIx_t, xIx_l, xIx_s, xIx_di, xIx_ds, at0, at1, at2, at3, at4, at5, at6, at7, xIs_nn, xIs_i, xIs_s, xIs_b, xIs_t, xIs_l, xIs_d, xIsB_n, xIsB_i, xIsB_s, xIsB_b, yInt_i, yInt_b, yInt_n, yInt_s, yInt_t, yInt_l, yBool_i, yBool_b, yBool_n, yBool_s, yBool_t, yBool_l, yStr_i, yStr_b, yStr_n, yStr_s, yStr_t, yStr_l, yTup_i, yTup_b, yTup_n, yTup_s, yTup_t, yTup_l, yLst_i, yLst_n, yLst_s, yLst_t, yLst_l, xIn_l, xIn_it, xIn_il, xIn_sd, xLt_pp, xGt_pp, xLe_pp, xGe_pp, xII, z0, z1, z2, zput0, zput1, zC, zV, zv_d, zv_l, zv_k, zOp, zUn, zlk_d, zlk_l, zlk_k, zlk_b, zls_d, zls_l, zls_k, zfz_d, zfz_l, zfz_k, zfz_b, zfr_l, zfr_k, zfr_d, ztB, zbk, ztT, ztr_b, ztr_i, ztr_n, ztr_t, ztr_l, ztr_s, ztAnd, ztOr, ztNot, zeAnd, zeOr, zeNot, zeIf, zaNil, zaCons, zTup, zLst, zCB, zCall, zCallK, zfdn, zDicK, zpNone, zpSome, zpsk, zSl, zChain, zchk, zSeq, zsNil, zBreak, zCont, zIf, zSet, zs_d, zs_l, zs_k, zs_b, zRet, zr_d, zr_l, zr_k, zr_b, zRetN, zDrop, zFor, ziE, zit_t, zit_l, zit_s, zR1, zr1, zR2, zr2, zgN, zAsg, zgT, zgsC, zgsN, zApp, zap0, zap, zLc, zclr, zclr2, zbck, zkeep_d, zkeep_n, zDP, zdp0, zdp, zky_i, zky_s, xSorted, xNe_bb, zPop, zpopk, zExt, zextk, zextk2, xUpper, xInW, xIxW, xLt_ss, xLe_ss, xGt_ss, xSl_t, xSl_l, xSl_s, zlNil, zlCons, zpin_d, zpin_l, zpin_k, zpin_b, zlkL0, zlkL1, zCallL, zimm_d, zimm_l, zimm_k, zimm_i, zimm_s, zimm_b, zimm_n, zimm_t, zimm_0, zimm_1, zSortSet, List.length_cons, List.length_nil, List.nil_append, List.append_nil, List.cons_append, true_and, and_true, reduceIte, if_true, if_false, decide_eq_true_eq, Bool.not_true, Bool.not_false, Bool.not_eq_true, Bool.false_eq_true, Nat.reduceAdd, Nat.zero_add, Bool.not_eq_false, decide_false, decide_true, Bool.not_eq_eq_eq_not, Bool.true_eq, decide_not, Bool.not_not, decide_eq_false_iff_not, eq_self, ahD]
      exact ih
    | some a =>
      have hl := h1 a rfl p (List.mem_cons_self ..)
      simp only [xEq_ii, xEq_ss, xEq_nn, xEq_bb, xEq_ni, xEq_in, xNe_ii, xNe_ss, xLt_ii, xGt_ii, xLe_ii, xGe_ii, xAdd_ii, xAdd_ss, xAdd_tt, xAdd_ll, xSub_ii, xMul_ii, xDiv_ii, xMod_ii, xPow_ii, xNeg_i, xInt_i, xInt_b, xLen_t, xLen_l, xLen_s, xLen_d, xTuple_l, xTuple_t, xList_l, xList_t, xIx_t, xIx_l, xIx_s, xIx_di, xIx_ds, at0, at1, at2, at3, at4, at5, at6, at7, xIs_nn, xIs_i, xIs_s, xIs_b, xIs_t, xIs_l, xIs_d, xIsB_n, xIsB_i, xIsB_s, xIsB_b, yInt_i, yInt_b, yInt_n, yInt_s, yInt_t, yInt_l, yBool_i, yBool_b, yBool_n, yBool_s, yBool_t, yBool_l, yStr_i, yStr_b, yStr_n, yStr_s, yStr_t, yStr_l, yTup_i, yTup_b, yTup_n, yTup_s, yTup_t, yTup_l, yLst_i, yLst_n, yLst_s, yLst_t, yLst_l, xIn_l, xIn_it, xIn_il, xIn_sd, xLt_pp, xGt_pp, xLe_pp, xGe_pp, xII, z0, z1, z2, zput0, zput1, zC, zV, zv_d, zv_l, zv_k, zOp, zUn, zlk_d, zlk_l, zlk_k, zlk_b, zls_d, zls_l, zls_k, zfz_d, zfz_l, zfz_k, zfz_b, zfr_l, zfr_k, zfr_d, ztB, zbk, ztT, ztr_b, ztr_i, ztr_n, ztr_t, ztr_l, ztr_s, ztAnd, ztOr, ztNot, zeAnd, zeOr, zeNot, zeIf, zaNil, zaCons, zTup, zLst, zCB, zCall, zCallK, zfdn, zDicK, zpNone, zpSome, zpsk, zSl, zChain, zchk, zSeq, zsNil, zBreak, zCont, zIf, zSet, zs_d, zs_l, zs_k, zs_b, zRet, zr_d, zr_l, zr_k, zr_b, zRetN, zDrop, zFor, ziE, zit_t, zit_l, zit_s, zR1, zr1, zR2, zr2, zgN, zAsg, zgT, zgsC, zgsN, zApp, zap0, zap, zLc, zclr, zclr2, zbck, zkeep_d, zkeep_n, zDP, zdp0, zdp, zky_i, zky_s, xSorted, xNe_bb, zPop, zpopk, zExt, zextk, zextk2, xUpper, xInW, xIxW, xLt_ss, xLe_ss, xGt_ss, xSl_t, xSl_l, xSl_s, zlNil, zlCons, zpin_d, zpin_l, zpin_k, zpin_b, zlkL0, zlkL1, zCallL, zimm_d, zimm_l, zimm_k, zimm_i, zimm_s, zimm_b, zimm_n, zimm_t, zimm_0, zimm_1, zSortSet, List.length_cons, List.length_nil, List.nil_append, List.append_nil, List.cons_append, true_and, and_true, reduceIte, if_true, if_false, decide_eq_true_eq, Bool.not_true, Bool.not_false, Bool.not_eq_true, Bool.false_eq_true, Nat.reduceAdd, Nat.zero_add, Bool.not_eq_false, decide_false, decide_true, Bool.not_eq_eq_eq_not, Bool.true_eq, decide_not, Bool.not_not, decide_eq_false_iff_not, eq_self, ahD, hl]
      exact ih
theorem is_series_ok {ps : List Pr} (o : Ser ps) (h : R (.d (.bl true)) μ) : fn_is_series [.tup (ps.map prD)] μ R := by
  show Φ_is_series _ ⟨[.d (.tup (ps.map prD)), .no, .no], μ⟩
  simp only [Φ_is_series, xEq_ii, xEq_ss, xEq_nn, xEq_bb, xEq_ni, xEq_in, xNe_ii, xNe_ss, xLt_ii, xGt_ii, xLe_ii, xGe_ii, xAdd_ii, xAdd_ss, xAdd_tt, xAdd_ll, xSub_ii, xMul_ii, xDiv_ii, xMod_ii, xPow_ii, xNeg_i, xInt_i, xInt_b, xLen_t, xLen_l, xLen_s, xLen_d, xTuple_l, xTuple_t, xList_l, xList_t, xIx_t, xIx_l, xIx_s, xIx_di, xIx_ds, at0, at1, at2, at3, at4, at5, at6, at7, xIs_nn, xIs_i, xIs_s, xIs_b, xIs_t, xIs_l, xIs_d, xIsB_n, xIsB_i, xIsB_s, xIsB_b, yInt_i, yInt_b, yInt_n, yInt_s, yInt_t, yInt_l, yBool_i, yBool_b, yBool_n, yBool_s, yBool_t, yBool_l, yStr_i, yStr_b, yStr_n, yStr_s, yStr_t, yStr_l, yTup_i, yTup_b, yTup_n, yTup_s, yTup_t, yTup_l, yLst_i, yLst_n, yLst_s, yLst_t, yLst_l, xIn_l, xIn_it, xIn_il, xIn_sd, xLt_pp, xGt_pp, xLe_pp, xGe_pp, xII, z0, z1, z2, zput0, zput1, zC, zV, zv_d, zv_l, zv_k, zOp, zUn, zlk_d, zlk_l, zlk_k, zlk_b, zls_d, zls_l, zls_k, zfz_d, zfz_l, zfz_k, zfz_b, zfr_l, zfr_k, zfr_d, ztB, zbk, ztT, ztr_b, ztr_i, ztr_n, ztr_t, ztr_l, ztr_s, ztAnd, ztOr, ztNot, zeAnd, zeOr, zeNot, zeIf, zaNil, zaCons, zTup, zLst, zCB, zCall, zCallK, zfdn, zDicK, zpNone, zpSome, zpsk, zSl, zChain, zchk, zSeq, zsNil, zBreak, zCont, zIf, zSet, zs_d, zs_l, zs_k, zs_b, zRet, zr_d, zr_l, zr_k, zr_b, zRetN, zDrop, zFor, ziE, zit_t, zit_l, zit_s, zR1, zr1, zR2, zr2, zgN, zAsg, zgT, zgsC, zgsN, zApp, zap0, zap, zLc, zclr, zclr2, zbck, zkeep_d, zkeep_n, zDP, zdp0, zdp, zky_i, zky_s, xSorted, xNe_bb, zPop, zpopk, zExt, zextk, zextk2, xUpper, xInW, xIxW, xLt_ss, xLe_ss, xGt_ss, xSl_t, xSl_l, xSl_s, zlNil, zlCons, zpin_d, zpin_l, zpin_k, zpin_b, zlkL0, zlkL1, zCallL, zimm_d, zimm_l, zimm_k, zimm_i, zimm_s, zimm_b, zimm_n, zimm_t, zimm_0, zimm_1, zSortSet, List.length_cons, List.length_nil, List.nil_append, List.append_nil, List.cons_append, true_and, and_true, reduceIte, if_true, if_false, decide_eq_true_eq, Bool.not_true, Bool.not_false, Bool.not_eq_true, Bool.false_eq_true, Nat.reduceAdd, Nat.zero_add, Bool.not_eq_false, decide_false, decide_true, Bool.not_eq_eq_eq_not, Bool.true_eq, decide_not, Bool.not_not, decide_eq_false_iff_not, eq_self]
  refine series_loop ps none _ (fun a e => by cases e) o.asc o.nm fun x y => ?_
  simp only [xEq_ii, xEq_ss, xEq_nn, xEq_bb, xEq_ni, xEq_in, xNe_ii, xNe_ss, xLt_ii, xGt_ii, xLe_ii, xGe_ii, xAdd_ii, xAdd_ss, xAdd_tt, xAdd_ll, xSub_ii, xMul_ii, xDiv_ii, xMod_ii, xPow_ii, xNeg_i, xInt_i, xInt_b, xLen_t, xLen_l, xLen_s, xLen_d, xTuple_l, xTuple_t, xList_l, xList_t, xIx_t, xIx_l, xIx_s, xIx_di, xIx_ds, at0, at1, at2, at3, at4, at5, at6, at7, xIs_nn, xIs_i, xIs_s, xIs_b, xIs_t, xIs_l, xIs_d, xIsB_n, xIsB_i, xIsB_s, xIsB_b, yInt_i, yInt_b, yInt_n, yInt_s, yInt_t, yInt_l, yBool_i, yBool_b, yBool_n, yBool_s, yBool_t, yBool_l, yStr_i, yStr_b, yStr_n, yStr_s, yStr_t, yStr_l, yTup_i, yTup_b, yTup_n, yTup_s, yTup_t, yTup_l, yLst_i, yLst_n, yLst_s, yLst_t, yLst_l, xIn_l, xIn_it, xIn_il, xIn_sd, xLt_pp, xGt_pp, xLe_pp, xGe_pp, xII, z0, z1, z2, zput0, zput1, zC, zV, zv_d, zv_l, zv_k, zOp, zUn, zlk_d, zlk_l, zlk_k, zlk_b, zls_d, zls_l, zls_k, zfz_d, zfz_l, zfz_k, zfz_b, zfr_l, zfr_k, zfr_d, ztB, zbk, ztT, ztr_b, ztr_i, ztr_n, ztr_t, ztr_l, ztr_s, ztAnd, ztOr, ztNot, zeAnd, zeOr, zeNot, zeIf, zaNil, zaCons, zTup, zLst, zCB, zCall, zCallK, zfdn, zDicK, zpNone, zpSome, zpsk, zSl, zChain, zchk, zSeq, zsNil, zBreak, zCont, zIf, zSet, zs_d, zs_l, zs_k, zs_b, zRet, zr_d, zr_l, zr_k, zr_b, zRetN, zDrop, zFor, ziE, zit_t, zit_l, zit_s, zR1, zr1, zR2, zr2, zgN, zAsg, zgT, zgsC, zgsN, zApp, zap0, zap, zLc, zclr, zclr2, zbck, zkeep_d, zkeep_n, zDP, zdp0, zdp, zky_i, zky_s, xSorted, xNe_bb, zPop, zpopk, zExt, zextk, zextk2, xUpper, xInW, xIxW, xLt_ss, xLe_ss, xGt_ss, xSl_t, xSl_l, xSl_s, zlNil, zlCons, zpin_d, zpin_l, zpin_k, zpin_b, zlkL0, zlkL1, zCallL, zimm_d, zimm_l, zimm_k, zimm_i, zimm_s, zimm_b, zimm_n, zimm_t, zimm_0, zimm_1, zSortSet, List.length_cons, List.length_nil, List.nil_append, List.append_nil, List.cons_append, true_and, and_true, reduceIte, if_true, if_false, decide_eq_true_eq, Bool.not_true, Bool.not_false, Bool.not_eq_true, Bool.false_eq_true, Nat.reduceAdd, Nat.zero_add, Bool.not_eq_false, decide_false, decide_true, Bool.not_eq_eq_eq_not, Bool.true_eq, decide_not, Bool.not_not, decide_eq_false_iff_not, eq_self]
  exact h
end
end K04
namespace K04
open PySem PySem.Spec PyProof.Rows L2 DL
theorem ne_any_is : ((("any" : Str)) = "is") = False := eq_false (by decide +kernel)
theorem ne_any_has : ((("any" : Str)) = "has") = False := eq_false (by decide +kernel)
theorem ne_any_not : ((("any" : Str)) = "not") = False := eq_false (by decide +kernel)
theorem ne_any_and : ((("any" : Str)) = "and") = False := eq_false (by decide +kernel)
theorem ne_any_or : ((("any" : Str)) = "or") = False := eq_false (by decide +kernel)
theorem ne_is_any : ((("is" : Str)) = "any") = False := eq_false (by decide +kernel)
theorem ne_is_has : ((("is" : Str)) = "has") = False := eq_false (by decide +kernel)
theorem ne_is_not : ((("is" : Str)) = "not") = False := eq_false (by decide +kernel)
theorem ne_is_and : ((("is" : Str)) = "and") = False := eq_false (by decide +kernel)
theorem ne_is_or : ((("is" : Str)) = "or") = False := eq_false (by decide +kernel)
theorem ne_has_any : ((("has" : Str)) = "any") = False := eq_false (by decide +kernel)
theorem ne_has_is : ((("has" : Str)) = "is") = False := eq_false (by decide +kernel)
theorem ne_has_not : ((("has" : Str)) = "not") = False := eq_false (by decide +kernel)
theorem ne_has_and : ((("has" : Str)) = "and") = False := eq_false (by decide +kernel)
theorem ne_has_or : ((("has" : Str)) = "or") = False := eq_false (by decide +kernel)
theorem ne_not_any : ((("not" : Str)) = "any") = False := eq_false (by decide +kernel)
theorem ne_not_is : ((("not" : Str)) = "is") = False := eq_false (by decide +kernel)
theorem ne_not_has : ((("not" : Str)) = "has") = False := eq_false (by decide +kernel)
theorem ne_not_and : ((("not" : Str)) = "and") = False := eq_false (by decide +kernel)
theorem ne_not_or : ((("not" : Str)) = "or") = False := eq_false (by decide +kernel)
theorem ne_and_any : ((("and" : Str)) = "any") = False := eq_false (by decide +kernel)
theorem ne_and_is : ((("and" : Str)) = "is") = False := eq_false (by decide +kernel)
theorem ne_and_has : ((("and" : Str)) = "has") = False := eq_false (by decide +kernel)
theorem ne_and_not : ((("and" : Str)) = "not") = False := eq_false (by decide +kernel)
theorem ne_and_or : ((("and" : Str)) = "or") = False := eq_false (by decide +kernel)
theorem ne_or_any : ((("or" : Str)) = "any") = False := eq_false (by decide +kernel)
theorem ne_or_is : ((("or" : Str)) = "is") = False := eq_false (by decide +kernel)
theorem ne_or_has : ((("or" : Str)) = "has") = False := eq_false (by decide +kernel)
theorem ne_or_not : ((("or" : Str)) = "not") = False := eq_false (by decide +kernel)
theorem ne_or_and : ((("or" : Str)) = "and") = False := eq_false (by decide +kernel)
/-- selectors -/
inductive Q where
  | any | has (x : Str) | is (x : Str) (vs : List Str) | no (q : Q) | bo (and_ : Bool) (p q : Q)
def Q.D : Q → D
  | .any => .tup [.str "any"]
  | .has x => .tup [.str "has", .str x]
  | .is x vs => .tup [.str "is", .str x, .tup (vs.map D.str)]
  | .no q => .tup [.str "not", q.D]
  | .bo a p q => .tup [.str (if a then "and" else "or"), p.D, q.D]
def Q.n : Q → Nat
  | .any => 1
  | .has _ => 1
  | .is _ _ => 1
  | .no q => q.n + 1
  | .bo _ p q => p.n + q.n + 1
def Q.Ok : Q → Prop
  | .any => True
  | .has x => Nm x
  | .is x vs => Nm x ∧ Row vs
  | .no q => q.Ok
  | .bo _ p q => p.Ok ∧ q.Ok
def Q.inn : Q → List Q
  | .no q => [q]
  | .bo _ p q => [p, q]
  | _ => []
def wL : List (Str × Int) := [("any", 1), ("is", 3), ("has", 2), ("not", 2), ("and", 3), ("or", 3)]
theorem wl_any : wL.lookup ("any" : Str) = some 1 := by decide +kernel
theorem wl_is : wL.lookup ("is" : Str) = some 3 := by decide +kernel
theorem wl_has : wL.lookup ("has" : Str) = some 2 := by decide +kernel
theorem wl_not : wL.lookup ("not" : Str) = some 2 := by decide +kernel
theorem wl_and : wL.lookup ("and" : Str) = some 3 := by decide +kernel
theorem wl_or : wL.lookup ("or" : Str) = some 3 := by decide +kernel
section
variable {μ : Mu} {R : Sl → Mu → Prop} {w : DL.D} {Δ : DE}
theorem is_part_ok {q : Q} (o : q.Ok) (h : R (.d (.bl true)) μ) : fn_is_part [q.D] μ R := by
  show Φ_is_part _ ⟨[.d q.D, .no], μ⟩
  have e : ∀ (x : Str) (l : List D), (D.str x :: l).isEmpty = false := fun _ _ => rfl
  have a1 := wl_any
  have a2 := wl_is
  have a3 := wl_has
  have a4 := wl_not
  have a5 := wl_and
  have a6 := wl_or
  unfold wL at a1 a2 a3 a4 a5 a6
  cases q with
  | any =>
    simp only [Φ_is_part, Q.D, xEq_ii, xEq_ss, xEq_nn, xEq_bb, xEq_ni, xEq_in, xNe_ii, xNe_ss, xLt_ii, xGt_ii, xLe_ii, xGe_ii, xAdd_ii, xAdd_ss, xAdd_tt, xAdd_ll, xSub_ii, xMul_ii, xDiv_ii, xMod_ii, xPow_ii, xNeg_i, xInt_i, xInt_b, xLen_t, xLen_l, xLen_s, xLen_d, xTuple_l, xTuple_t, xList_l, xList_t, xIx_t, xIx_l, xIx_s, xIx_di, xIx_ds, at0, at1, at2, at3, at4, at5, at6, at7, xIs_nn, xIs_i, xIs_s, xIs_b, xIs_t, xIs_l, xIs_d, xIsB_n, xIsB_i, xIsB_s, xIsB_b, yInt_i, yInt_b, yInt_n, yInt_s, yInt_t, yInt_l, yBool_i, yBool_b, yBool_n, yBool_s, yBool_t, yBool_l, yStr_i, yStr_b, yStr_n, yStr_s, yStr_t, yStr_l, yTup_i, yTup_b, yTup_n, yTup_s, yTup_t, yTup_l, yLst_i, yLst_n, yLst_s, yLst_t, yLst_l, xIn_l, xIn_it, xIn_il, xIn_sd, xLt_pp, xGt_pp, xLe_pp, xGe_pp, xII, z0, z1, z2, zput0, zput1, zC, zV, zv_d, zv_l, zv_k, zOp, zUn, zlk_d, zlk_l, zlk_k, zlk_b, zls_d, zls_l, zls_k, zfz_d, zfz_l, zfz_k, zfz_b, zfr_l, zfr_k, zfr_d, ztB, zbk, ztT, ztr_b, ztr_i, ztr_n, ztr_t, ztr_l, ztr_s, ztAnd, ztOr, ztNot, zeAnd, zeOr, zeNot, zeIf, zaNil, zaCons, zTup, zLst, zCB, zCall, zCallK, zfdn, zDicK, zpNone, zpSome, zpsk, zSl, zChain, zchk, zSeq, zsNil, zBreak, zCont, zIf, zSet, zs_d, zs_l, zs_k, zs_b, zRet, zr_d, zr_l, zr_k, zr_b, zRetN, zDrop, zFor, ziE, zit_t, zit_l, zit_s, zR1, zr1, zR2, zr2, zgN, zAsg, zgT, zgsC, zgsN, zApp, zap0, zap, zLc, zclr, zclr2, zbck, zkeep_d, zkeep_n, zDP, zdp0, zdp, zky_i, zky_s, xSorted, xNe_bb, zPop, zpopk, zExt, zextk, zextk2, xUpper, xInW, xIxW, xLt_ss, xLe_ss, xGt_ss, xSl_t, xSl_l, xSl_s, zlNil, zlCons, zpin_d, zpin_l, zpin_k, zpin_b, zlkL0, zlkL1, zCallL, zimm_d, zimm_l, zimm_k, zimm_i, zimm_s, zimm_b, zimm_n, zimm_t, zimm_0, zimm_1, zSortSet, List.length_cons, List.length_nil, List.nil_append, List.append_nil, List.cons_append, true_and, and_true, reduceIte, if_true, if_false, decide_eq_true_eq, Bool.not_true, Bool.not_false, Bool.not_eq_true, Bool.false_eq_true, Nat.reduceAdd, Nat.zero_add, Bool.not_eq_false, decide_false, decide_true, Bool.not_eq_eq_eq_not, Bool.true_eq, decide_not, Bool.not_not, decide_eq_false_iff_not, eq_self, ne_any_is, ne_any_has, ne_any_not, ne_any_and, ne_any_or, ne_is_any, ne_is_has, ne_is_not, ne_is_and, ne_is_or, ne_has_any, ne_has_is, ne_has_not, ne_has_and, ne_has_or, ne_not_any, ne_not_is, ne_not_has, ne_not_and, ne_not_or, ne_and_any, ne_and_is, ne_and_has, ne_and_not, ne_and_or, ne_or_any, ne_or_is, ne_or_has, ne_or_not, ne_or_and, e, a1, Option.isSome_some]
    exact h
  | has x =>
    simp only [Φ_is_part, Q.D, xEq_ii, xEq_ss, xEq_nn, xEq_bb, xEq_ni, xEq_in, xNe_ii, xNe_ss, xLt_ii, xGt_ii, xLe_ii, xGe_ii, xAdd_ii, xAdd_ss, xAdd_tt, xAdd_ll, xSub_ii, xMul_ii, xDiv_ii, xMod_ii, xPow_ii, xNeg_i, xInt_i, xInt_b, xLen_t, xLen_l, xLen_s, xLen_d, xTuple_l, xTuple_t, xList_l, xList_t, xIx_t, xIx_l, xIx_s, xIx_di, xIx_ds, at0, at1, at2, at3, at4, at5, at6, at7, xIs_nn, xIs_i, xIs_s, xIs_b, xIs_t, xIs_l, xIs_d, xIsB_n, xIsB_i, xIsB_s, xIsB_b, yInt_i, yInt_b, yInt_n, yInt_s, yInt_t, yInt_l, yBool_i, yBool_b, yBool_n, yBool_s, yBool_t, yBool_l, yStr_i, yStr_b, yStr_n, yStr_s, yStr_t, yStr_l, yTup_i, yTup_b, yTup_n, yTup_s, yTup_t, yTup_l, yLst_i, yLst_n, yLst_s, yLst_t, yLst_l, xIn_l, xIn_it, xIn_il, xIn_sd, xLt_pp, xGt_pp, xLe_pp, xGe_pp, xII, z0, z1, z2, zput0, zput1, zC, zV, zv_d, zv_l, zv_k, zOp, zUn, zlk_d, zlk_l, zlk_k, zlk_b, zls_d, zls_l, zls_k, zfz_d, zfz_l, zfz_k, zfz_b, zfr_l, zfr_k, zfr_d, ztB, zbk, ztT, ztr_b, ztr_i, ztr_n, ztr_t, ztr_l, ztr_s, ztAnd, ztOr, ztNot, zeAnd, zeOr, zeNot, zeIf, zaNil, zaCons, zTup, zLst, zCB, zCall, zCallK, zfdn, zDicK, zpNone, zpSome, zpsk, zSl, zChain, zchk, zSeq, zsNil, zBreak, zCont, zIf, zSet, zs_d, zs_l, zs_k, zs_b, zRet, zr_d, zr_l, zr_k, zr_b, zRetN, zDrop, zFor, ziE, zit_t, zit_l, zit_s, zR1, zr1, zR2, zr2, zgN, zAsg, zgT, zgsC, zgsN, zApp, zap0, zap, zLc, zclr, zclr2, zbck, zkeep_d, zkeep_n, zDP, zdp0, zdp, zky_i, zky_s, xSorted, xNe_bb, zPop, zpopk, zExt, zextk, zextk2, xUpper, xInW, xIxW, xLt_ss, xLe_ss, xGt_ss, xSl_t, xSl_l, xSl_s, zlNil, zlCons, zpin_d, zpin_l, zpin_k, zpin_b, zlkL0, zlkL1, zCallL, zimm_d, zimm_l, zimm_k, zimm_i, zimm_s, zimm_b, zimm_n, zimm_t, zimm_0, zimm_1, zSortSet, List.length_cons, List.length_nil, List.nil_append, List.append_nil, List.cons_append, true_and, and_true, reduceIte, if_true, if_false, decide_eq_true_eq, Bool.not_true, Bool.not_false, Bool.not_eq_true, Bool.false_eq_true, Nat.reduceAdd, Nat.zero_add, Bool.not_eq_false, decide_false, decide_true, Bool.not_eq_eq_eq_not, Bool.true_eq, decide_not, Bool.not_not, decide_eq_false_iff_not, eq_self, ne_any_is, ne_any_has, ne_any_not, ne_any_and, ne_any_or, ne_is_any, ne_is_has, ne_is_not, ne_is_and, ne_is_or, ne_has_any, ne_has_is, ne_has_not, ne_has_and, ne_has_or, ne_not_any, ne_not_is, ne_not_has, ne_not_and, ne_not_or, ne_and_any, ne_and_is, ne_and_has, ne_and_not, ne_and_or, ne_or_any, ne_or_is, ne_or_has, ne_or_not, ne_or_and, e, a3, Option.isSome_some]
    refine is_name_ok o ?_
    simp only [xEq_ii, xEq_ss, xEq_nn, xEq_bb, xEq_ni, xEq_in, xNe_ii, xNe_ss, xLt_ii, xGt_ii, xLe_ii, xGe_ii, xAdd_ii, xAdd_ss, xAdd_tt, xAdd_ll, xSub_ii, xMul_ii, xDiv_ii, xMod_ii, xPow_ii, xNeg_i, xInt_i, xInt_b, xLen_t, xLen_l, xLen_s, xLen_d, xTuple_l, xTuple_t, xList_l, xList_t, xIx_t, xIx_l, xIx_s, xIx_di, xIx_ds, at0, at1, at2, at3, at4, at5, at6, at7, xIs_nn, xIs_i, xIs_s, xIs_b, xIs_t, xIs_l, xIs_d, xIsB_n, xIsB_i, xIsB_s, xIsB_b, yInt_i, yInt_b, yInt_n, yInt_s, yInt_t, yInt_l, yBool_i, yBool_b, yBool_n, yBool_s, yBool_t, yBool_l, yStr_i, yStr_b, yStr_n, yStr_s, yStr_t, yStr_l, yTup_i, yTup_b, yTup_n, yTup_s, yTup_t, yTup_l, yLst_i, yLst_n, yLst_s, yLst_t, yLst_l, xIn_l, xIn_it, xIn_il, xIn_sd, xLt_pp, xGt_pp, xLe_pp, xGe_pp, xII, z0, z1, z2, zput0, zput1, zC, zV, zv_d, zv_l, zv_k, zOp, zUn, zlk_d, zlk_l, zlk_k, zlk_b, zls_d, zls_l, zls_k, zfz_d, zfz_l, zfz_k, zfz_b, zfr_l, zfr_k, zfr_d, ztB, zbk, ztT, ztr_b, ztr_i, ztr_n, ztr_t, ztr_l, ztr_s, ztAnd, ztOr, ztNot, zeAnd, zeOr, zeNot, zeIf, zaNil, zaCons, zTup, zLst, zCB, zCall, zCallK, zfdn, zDicK, zpNone, zpSome, zpsk, zSl, zChain, zchk, zSeq, zsNil, zBreak, zCont, zIf, zSet, zs_d, zs_l, zs_k, zs_b, zRet, zr_d, zr_l, zr_k, zr_b, zRetN, zDrop, zFor, ziE, zit_t, zit_l, zit_s, zR1, zr1, zR2, zr2, zgN, zAsg, zgT, zgsC, zgsN, zApp, zap0, zap, zLc, zclr, zclr2, zbck, zkeep_d, zkeep_n, zDP, zdp0, zdp, zky_i, zky_s, xSorted, xNe_bb, zPop, zpopk, zExt, zextk, zextk2, xUpper, xInW, xIxW, xLt_ss, xLe_ss, xGt_ss, xSl_t, xSl_l, xSl_s, zlNil, zlCons, zpin_d, zpin_l, zpin_k, zpin_b, zlkL0, zlkL1, zCallL, zimm_d, zimm_l, zimm_k, zimm_i, zimm_s, zimm_b, zimm_n, zimm_t, zimm_0, zimm_1, zSortSet, List.length_cons, List.length_nil, List.nil_append, List.append_nil, List.cons_append, true_and, and_true, reduceIte, if_true, if_false, decide_eq_true_eq, Bool.not_true, Bool.not_false, Bool.not_eq_true, Bool.false_eq_true, Nat.reduceAdd, Nat.zero_add, Bool.not_eq_false, decide_false, decide_true, Bool.not_eq_eq_eq_not, Bool.true_eq, decide_not, Bool.not_not, decide_eq_false_iff_not, eq_self]
    exact h
  | is x vs =>
    simp only [Φ_is_part, Q.D, xEq_ii, xEq_ss, xEq_nn, xEq_bb, xEq_ni, xEq_in, xNe_ii, xNe_ss, xLt_ii, xGt_ii, xLe_ii, xGe_ii, xAdd_ii, xAdd_ss, xAdd_tt, xAdd_ll, xSub_ii, xMul_ii, xDiv_ii, xMod_ii, xPow_ii, xNeg_i, xInt_i, xInt_b, xLen_t, xLen_l, xLen_s, xLen_d, xTuple_l, xTuple_t, xList_l, xList_t, xIx_t, xIx_l, xIx_s, xIx_di, xIx_ds, at0, at1, at2, at3, at4, at5, at6, at7, xIs_nn, xIs_i, xIs_s, xIs_b, xIs_t, xIs_l, xIs_d, xIsB_n, xIsB_i, xIsB_s, xIsB_b, yInt_i, yInt_b, yInt_n, yInt_s, yInt_t, yInt_l, yBool_i, yBool_b, yBool_n, yBool_s, yBool_t, yBool_l, yStr_i, yStr_b, yStr_n, yStr_s, yStr_t, yStr_l, yTup_i, yTup_b, yTup_n, yTup_s, yTup_t, yTup_l, yLst_i, yLst_n, yLst_s, yLst_t, yLst_l, xIn_l, xIn_it, xIn_il, xIn_sd, xLt_pp, xGt_pp, xLe_pp, xGe_pp, xII, z0, z1, z2, zput0, zput1, zC, zV, zv_d, zv_l, zv_k, zOp, zUn, zlk_d, zlk_l, zlk_k, zlk_b, zls_d, zls_l, zls_k, zfz_d, zfz_l, zfz_k, zfz_b, zfr_l, zfr_k, zfr_d, ztB, zbk, ztT, ztr_b, ztr_i, ztr_n, ztr_t, ztr_l, ztr_s, ztAnd, ztOr, ztNot, zeAnd, zeOr, zeNot, zeIf, zaNil, zaCons, zTup, zLst, zCB, zCall, zCallK, zfdn, zDicK, zpNone, zpSome, zpsk, zSl, zChain, zchk, zSeq, zsNil, zBreak, zCont, zIf, zSet, zs_d, zs_l, zs_k, zs_b, zRet, zr_d, zr_l, zr_k, zr_b, zRetN, zDrop, zFor, ziE, zit_t, zit_l, zit_s, zR1, zr1, zR2, zr2, zgN, zAsg, zgT, zgsC, zgsN, zApp, zap0, zap, zLc, zclr, zclr2, zbck, zkeep_d, zkeep_n, zDP, zdp0, zdp, zky_i, zky_s, xSorted, xNe_bb, zPop, zpopk, zExt, zextk, zextk2, xUpper, xInW, xIxW, xLt_ss, xLe_ss, xGt_ss, xSl_t, xSl_l, xSl_s, zlNil, zlCons, zpin_d, zpin_l, zpin_k, zpin_b, zlkL0, zlkL1, zCallL, zimm_d, zimm_l, zimm_k, zimm_i, zimm_s, zimm_b, zimm_n, zimm_t, zimm_0, zimm_1, zSortSet, List.length_cons, List.length_nil, List.nil_append, List.append_nil, List.cons_append, true_and, and_true, reduceIte, if_true, if_false, decide_eq_true_eq, Bool.not_true, Bool.not_false, Bool.not_eq_true, Bool.false_eq_true, Nat.reduceAdd, Nat.zero_add, Bool.not_eq_false, decide_false, decide_true, Bool.not_eq_eq_eq_not, Bool.true_eq, decide_not, Bool.not_not, decide_eq_false_iff_not, eq_self, ne_any_is, ne_any_has, ne_any_not, ne_any_and, ne_any_or, ne_is_any, ne_is_has, ne_is_not, ne_is_and, ne_is_or, ne_has_any, ne_has_is, ne_has_not, ne_has_and, ne_has_or, ne_not_any, ne_not_is, ne_not_has, ne_not_and, ne_not_or, ne_and_any, ne_and_is, ne_and_has, ne_and_not, ne_and_or, ne_or_any, ne_or_is, ne_or_has, ne_or_not, ne_or_and, e, a2, Option.isSome_some]
    refine is_name_ok o.1 ?_
    simp only [xEq_ii, xEq_ss, xEq_nn, xEq_bb, xEq_ni, xEq_in, xNe_ii, xNe_ss, xLt_ii, xGt_ii, xLe_ii, xGe_ii, xAdd_ii, xAdd_ss, xAdd_tt, xAdd_ll, xSub_ii, xMul_ii, xDiv_ii, xMod_ii, xPow_ii, xNeg_i, xInt_i, xInt_b, xLen_t, xLen_l, xLen_s, xLen_d, xTuple_l, xTuple_t, xList_l, xList_t, xIx_t, xIx_l, xIx_s, xIx_di, xIx_ds, at0, at1, at2, at3, at4, at5, at6, at7, xIs_nn, xIs_i, xIs_s, xIs_b, xIs_t, xIs_l, xIs_d, xIsB_n, xIsB_i, xIsB_s, xIsB_b, yInt_i, yInt_b, yInt_n, yInt_s, yInt_t, yInt_l, yBool_i, yBool_b, yBool_n, yBool_s, yBool_t, yBool_l, yStr_i, yStr_b, yStr_n, yStr_s, yStr_t, yStr_l, yTup_i, yTup_b, yTup_n, yTup_s, yTup_t, yTup_l, yLst_i, yLst_n, yLst_s, yLst_t, yLst_l, xIn_l, xIn_it, xIn_il, xIn_sd, xLt_pp, xGt_pp, xLe_pp, xGe_pp, xII, z0, z1, z2, zput0, zput1, zC, zV, zv_d, zv_l, zv_k, zOp, zUn, zlk_d, zlk_l, zlk_k, zlk_b, zls_d, zls_l, zls_k, zfz_d, zfz_l, zfz_k, zfz_b, zfr_l, zfr_k, zfr_d, ztB, zbk, ztT, ztr_b, ztr_i, ztr_n, ztr_t, ztr_l, ztr_s, ztAnd, ztOr, ztNot, zeAnd, zeOr, zeNot, zeIf, zaNil, zaCons, zTup, zLst, zCB, zCall, zCallK, zfdn, zDicK, zpNone, zpSome, zpsk, zSl, zChain, zchk, zSeq, zsNil, zBreak, zCont, zIf, zSet, zs_d, zs_l, zs_k, zs_b, zRet, zr_d, zr_l, zr_k, zr_b, zRetN, zDrop, zFor, ziE, zit_t, zit_l, zit_s, zR1, zr1, zR2, zr2, zgN, zAsg, zgT, zgsC, zgsN, zApp, zap0, zap, zLc, zclr, zclr2, zbck, zkeep_d, zkeep_n, zDP, zdp0, zdp, zky_i, zky_s, xSorted, xNe_bb, zPop, zpopk, zExt, zextk, zextk2, xUpper, xInW, xIxW, xLt_ss, xLe_ss, xGt_ss, xSl_t, xSl_l, xSl_s, zlNil, zlCons, zpin_d, zpin_l, zpin_k, zpin_b, zlkL0, zlkL1, zCallL, zimm_d, zimm_l, zimm_k, zimm_i, zimm_s, zimm_b, zimm_n, zimm_t, zimm_0, zimm_1, zSortSet, List.length_cons, List.length_nil, List.nil_append, List.append_nil, List.cons_append, true_and, and_true, reduceIte, if_true, if_false, decide_eq_true_eq, Bool.not_true, Bool.not_false, Bool.not_eq_true, Bool.false_eq_true, Nat.reduceAdd, Nat.zero_add, Bool.not_eq_false, decide_false, decide_true, Bool.not_eq_eq_eq_not, Bool.true_eq, decide_not, Bool.not_not, decide_eq_false_iff_not, eq_self]
    refine is_row_ok o.2 ?_
    simp only [xEq_ii, xEq_ss, xEq_nn, xEq_bb, xEq_ni, xEq_in, xNe_ii, xNe_ss, xLt_ii, xGt_ii, xLe_ii, xGe_ii, xAdd_ii, xAdd_ss, xAdd_tt, xAdd_ll, xSub_ii, xMul_ii, xDiv_ii, xMod_ii, xPow_ii, xNeg_i, xInt_i, xInt_b, xLen_t, xLen_l, xLen_s, xLen_d, xTuple_l, xTuple_t, xList_l, xList_t, xIx_t, xIx_l, xIx_s, xIx_di, xIx_ds, at0, at1, at2, at3, at4, at5, at6, at7, xIs_nn, xIs_i, xIs_s, xIs_b, xIs_t, xIs_l, xIs_d, xIsB_n, xIsB_i, xIsB_s, xIsB_b, yInt_i, yInt_b, yInt_n, yInt_s, yInt_t, yInt_l, yBool_i, yBool_b, yBool_n, yBool_s, yBool_t, yBool_l, yStr_i, yStr_b, yStr_n, yStr_s, yStr_t, yStr_l, yTup_i, yTup_b, yTup_n, yTup_s, yTup_t, yTup_l, yLst_i, yLst_n, yLst_s, yLst_t, yLst_l, xIn_l, xIn_it, xIn_il, xIn_sd, xLt_pp, xGt_pp, xLe_pp, xGe_pp, xII, z0, z1, z2, zput0, zput1, zC, zV, zv_d, zv_l, zv_k, zOp, zUn, zlk_d, zlk_l, zlk_k, zlk_b, zls_d, zls_l, zls_k, zfz_d, zfz_l, zfz_k, zfz_b, zfr_l, zfr_k, zfr_d, ztB, zbk, ztT, ztr_b, ztr_i, ztr_n, ztr_t, ztr_l, ztr_s, ztAnd, ztOr, ztNot, zeAnd, zeOr, zeNot, zeIf, zaNil, zaCons, zTup, zLst, zCB, zCall, zCallK, zfdn, zDicK, zpNone, zpSome, zpsk, zSl, zChain, zchk, zSeq, zsNil, zBreak, zCont, zIf, zSet, zs_d, zs_l, zs_k, zs_b, zRet, zr_d, zr_l, zr_k, zr_b, zRetN, zDrop, zFor, ziE, zit_t, zit_l, zit_s, zR1, zr1, zR2, zr2, zgN, zAsg, zgT, zgsC, zgsN, zApp, zap0, zap, zLc, zclr, zclr2, zbck, zkeep_d, zkeep_n, zDP, zdp0, zdp, zky_i, zky_s, xSorted, xNe_bb, zPop, zpopk, zExt, zextk, zextk2, xUpper, xInW, xIxW, xLt_ss, xLe_ss, xGt_ss, xSl_t, xSl_l, xSl_s, zlNil, zlCons, zpin_d, zpin_l, zpin_k, zpin_b, zlkL0, zlkL1, zCallL, zimm_d, zimm_l, zimm_k, zimm_i, zimm_s, zimm_b, zimm_n, zimm_t, zimm_0, zimm_1, zSortSet, List.length_cons, List.length_nil, List.nil_append, List.append_nil, List.cons_append, true_and, and_true, reduceIte, if_true, if_false, decide_eq_true_eq, Bool.not_true, Bool.not_false, Bool.not_eq_true, Bool.false_eq_true, Nat.reduceAdd, Nat.zero_add, Bool.not_eq_false, decide_false, decide_true, Bool.not_eq_eq_eq_not, Bool.true_eq, decide_not, Bool.not_not, decide_eq_false_iff_not, eq_self]
    exact h
  | no q =>
    simp only [Φ_is_part, Q.D, xEq_ii, xEq_ss, xEq_nn, xEq_bb, xEq_ni, xEq_in, xNe_ii, xNe_ss, xLt_ii, xGt_ii, xLe_ii, xGe_ii, xAdd_ii, xAdd_ss, xAdd_tt, xAdd_ll, xSub_ii, xMul_ii, xDiv_ii, xMod_ii, xPow_ii, xNeg_i, xInt_i, xInt_b, xLen_t, xLen_l, xLen_s, xLen_d, xTuple_l, xTuple_t, xList_l, xList_t, xIx_t, xIx_l, xIx_s, xIx_di, xIx_ds, at0, at1, at2, at3, at4, at5, at6, at7, xIs_nn, xIs_i, xIs_s, xIs_b, xIs_t, xIs_l, xIs_d, xIsB_n, xIsB_i, xIsB_s, xIsB_b, yInt_i, yInt_b, yInt_n, yInt_s, yInt_t, yInt_l, yBool_i, yBool_b, yBool_n, yBool_s, yBool_t, yBool_l, yStr_i, yStr_b, yStr_n, yStr_s, yStr_t, yStr_l, yTup_i, yTup_b, yTup_n, yTup_s, yTup_t, yTup_l, yLst_i, yLst_n, yLst_s, yLst_t, yLst_l, xIn_l, xIn_it, xIn_il, xIn_sd, xLt_pp, xGt_pp, xLe_pp, xGe_pp, xII, z0, z1, z2, zput0, zput1, zC, zV, zv_d, zv_l, zv_k, zOp, zUn, zlk_d, zlk_l, zlk_k, zlk_b, zls_d, zls_l, zls_k, zfz_d, zfz_l, zfz_k, zfz_b, zfr_l, zfr_k, zfr_d, ztB, zbk, ztT, ztr_b, ztr_i, ztr_n, ztr_t, ztr_l, ztr_s, ztAnd, ztOr, ztNot, zeAnd, zeOr, zeNot, zeIf, zaNil, zaCons, zTup, zLst, zCB, zCall, zCallK, zfdn, zDicK, zpNone, zpSome, zpsk, zSl, zChain, zchk, zSeq, zsNil, zBreak, zCont, zIf, zSet, zs_d, zs_l, zs_k, zs_b, zRet, zr_d, zr_l, zr_k, zr_b, zRetN, zDrop, zFor, ziE, zit_t, zit_l, zit_s, zR1, zr1, zR2, zr2, zgN, zAsg, zgT, zgsC, zgsN, zApp, zap0, zap, zLc, zclr, zclr2, zbck, zkeep_d, zkeep_n, zDP, zdp0, zdp, zky_i, zky_s, xSorted, xNe_bb, zPop, zpopk, zExt, zextk, zextk2, xUpper, xInW, xIxW, xLt_ss, xLe_ss, xGt_ss, xSl_t, xSl_l, xSl_s, zlNil, zlCons, zpin_d, zpin_l, zpin_k, zpin_b, zlkL0, zlkL1, zCallL, zimm_d, zimm_l, zimm_k, zimm_i, zimm_s, zimm_b, zimm_n, zimm_t, zimm_0, zimm_1, zSortSet, List.length_cons, List.length_nil, List.nil_append, List.append_nil, List.cons_append, true_and, and_true, reduceIte, if_true, if_false, decide_eq_true_eq, Bool.not_true, Bool.not_false, Bool.not_eq_true, Bool.false_eq_true, Nat.reduceAdd, Nat.zero_add, Bool.not_eq_false, decide_false, decide_true, Bool.not_eq_eq_eq_not, Bool.true_eq, decide_not, Bool.not_not, decide_eq_false_iff_not, eq_self, ne_any_is, ne_any_has, ne_any_not, ne_any_and, ne_any_or, ne_is_any, ne_is_has, ne_is_not, ne_is_and, ne_is_or, ne_has_any, ne_has_is, ne_has_not, ne_has_and, ne_has_or, ne_not_any, ne_not_is, ne_not_has, ne_not_and, ne_not_or, ne_and_any, ne_and_is, ne_and_has, ne_and_not, ne_and_or, ne_or_any, ne_or_is, ne_or_has, ne_or_not, ne_or_and, e, a4, Option.isSome_some]
    exact h
  | bo a p q =>
    cases a
    · simp only [Φ_is_part, Q.D, xEq_ii, xEq_ss, xEq_nn, xEq_bb, xEq_ni, xEq_in, xNe_ii, xNe_ss, xLt_ii, xGt_ii, xLe_ii, xGe_ii, xAdd_ii, xAdd_ss, xAdd_tt, xAdd_ll, xSub_ii, xMul_ii, xDiv_ii, xMod_ii, xPow_ii, xNeg_i, xInt_i, xInt_b, xLen_t, xLen_l, xLen_s, xLen_d, xTuple_l, xTuple_t, xList_l, xList_t, xIx_t, xIx_l, xIx_s, xIx_di, xIx_ds, at0, at1, at2, at3, at4, at5, at6, at7, xIs_nn, xIs_i, xIs_s, xIs_b, xIs_t, xIs_l, xIs_d, xIsB_n, xIsB_i, xIsB_s, xIsB_b, yInt_i, yInt_b, yInt_n, yInt_s, yInt_t, yInt_l, yBool_i, yBool_b, yBool_n, yBool_s, yBool_t, yBool_l, yStr_i, yStr_b, yStr_n, yStr_s, yStr_t, yStr_l, yTup_i, yTup_b, yTup_n, yTup_s, yTup_t, yTup_l, yLst_i, yLst_n, yLst_s, yLst_t, yLst_l, xIn_l, xIn_it, xIn_il, xIn_sd, xLt_pp, xGt_pp, xLe_pp, xGe_pp, xII, z0, z1, z2, zput0, zput1, zC, zV, zv_d, zv_l, zv_k, zOp, zUn, zlk_d, zlk_l, zlk_k, zlk_b, zls_d, zls_l, zls_k, zfz_d, zfz_l, zfz_k, zfz_b, zfr_l, zfr_k, zfr_d, ztB, zbk, ztT, ztr_b, ztr_i, ztr_n, ztr_t, ztr_l, ztr_s, ztAnd, ztOr, ztNot, zeAnd, zeOr, zeNot, zeIf, zaNil, zaCons, zTup, zLst, zCB, zCall, zCallK, zfdn, zDicK, zpNone, zpSome, zpsk, zSl, zChain, zchk, zSeq, zsNil, zBreak, zCont, zIf, zSet, zs_d, zs_l, zs_k, zs_b, zRet, zr_d, zr_l, zr_k, zr_b, zRetN, zDrop, zFor, ziE, zit_t, zit_l, zit_s, zR1, zr1, zR2, zr2, zgN, zAsg, zgT, zgsC, zgsN, zApp, zap0, zap, zLc, zclr, zclr2, zbck, zkeep_d, zkeep_n, zDP, zdp0, zdp, zky_i, zky_s, xSorted, xNe_bb, zPop, zpopk, zExt, zextk, zextk2, xUpper, xInW, xIxW, xLt_ss, xLe_ss, xGt_ss, xSl_t, xSl_l, xSl_s, zlNil, zlCons, zpin_d, zpin_l, zpin_k, zpin_b, zlkL0, zlkL1, zCallL, zimm_d, zimm_l, zimm_k, zimm_i, zimm_s, zimm_b, zimm_n, zimm_t, zimm_0, zimm_1, zSortSet, List.length_cons, List.length_nil, List.nil_append, List.append_nil, List.cons_append, true_and, and_true, reduceIte, if_true, if_false, decide_eq_true_eq, Bool.not_true, Bool.not_false, Bool.not_eq_true, Bool.false_eq_true, Nat.reduceAdd, Nat.zero_add, Bool.not_eq_false, decide_false, decide_true, Bool.not_eq_eq_eq_not, Bool.true_eq, decide_not, Bool.not_not, decide_eq_false_iff_not, eq_self, ne_any_is, ne_any_has, ne_any_not, ne_any_and, ne_any_or, ne_is_any, ne_is_has, ne_is_not, ne_is_and, ne_is_or, ne_has_any, ne_has_is, ne_has_not, ne_has_and, ne_has_or, ne_not_any, ne_not_is, ne_not_has, ne_not_and, ne_not_or, ne_and_any, ne_and_is, ne_and_has, ne_and_not, ne_and_or, ne_or_any, ne_or_is, ne_or_has, ne_or_not, ne_or_and, e, a6, Option.isSome_some]
      exact h
    · simp only [Φ_is_part, Q.D, xEq_ii, xEq_ss, xEq_nn, xEq_bb, xEq_ni, xEq_in, xNe_ii, xNe_ss, xLt_ii, xGt_ii, xLe_ii, xGe_ii, xAdd_ii, xAdd_ss, xAdd_tt, xAdd_ll, xSub_ii, xMul_ii, xDiv_ii, xMod_ii, xPow_ii, xNeg_i, xInt_i, xInt_b, xLen_t, xLen_l, xLen_s, xLen_d, xTuple_l, xTuple_t, xList_l, xList_t, xIx_t, xIx_l, xIx_s, xIx_di, xIx_ds, at0, at1, at2, at3, at4, at5, at6, at7, xIs_nn, xIs_i, xIs_s, xIs_b, xIs_t, xIs_l, xIs_d, xIsB_n, xIsB_i, xIsB_s, xIsB_b, yInt_i, yInt_b, yInt_n, yInt_s, yInt_t, yInt_l, yBool_i, yBool_b, yBool_n, yBool_s, yBool_t, yBool_l, yStr_i, yStr_b, yStr_n, yStr_s, yStr_t, yStr_l, yTup_i, yTup_b, yTup_n, yTup_s, yTup_t, yTup_l, yLst_i, yLst_n, yLst_s, yLst_t, yLst_l, xIn_l, xIn_it, xIn_il, xIn_sd, xLt_pp, xGt_pp, xLe_pp, xGe_pp, xII, z0, z1, z2, zput0, zput1, zC, zV, zv_d, zv_l, zv_k, zOp, zUn, zlk_d, zlk_l, zlk_k, zlk_b, zls_d, zls_l, zls_k, zfz_d, zfz_l, zfz_k, zfz_b, zfr_l, zfr_k, zfr_d, ztB, zbk, ztT, ztr_b, ztr_i, ztr_n, ztr_t, ztr_l, ztr_s, ztAnd, ztOr, ztNot, zeAnd, zeOr, zeNot, zeIf, zaNil, zaCons, zTup, zLst, zCB, zCall, zCallK, zfdn, zDicK, zpNone, zpSome, zpsk, zSl, zChain, zchk, zSeq, zsNil, zBreak, zCont, zIf, zSet, zs_d, zs_l, zs_k, zs_b, zRet, zr_d, zr_l, zr_k, zr_b, zRetN, zDrop, zFor, ziE, zit_t, zit_l, zit_s, zR1, zr1, zR2, zr2, zgN, zAsg, zgT, zgsC, zgsN, zApp, zap0, zap, zLc, zclr, zclr2, zbck, zkeep_d, zkeep_n, zDP, zdp0, zdp, zky_i, zky_s, xSorted, xNe_bb, zPop, zpopk, zExt, zextk, zextk2, xUpper, xInW, xIxW, xLt_ss, xLe_ss, xGt_ss, xSl_t, xSl_l, xSl_s, zlNil, zlCons, zpin_d, zpin_l, zpin_k, zpin_b, zlkL0, zlkL1, zCallL, zimm_d, zimm_l, zimm_k, zimm_i, zimm_s, zimm_b, zimm_n, zimm_t, zimm_0, zimm_1, zSortSet, List.length_cons, List.length_nil, List.nil_append, List.append_nil, List.cons_append, true_and, and_true, reduceIte, if_true, if_false, decide_eq_true_eq, Bool.not_true, Bool.not_false, Bool.not_eq_true, Bool.false_eq_true, Nat.reduceAdd, Nat.zero_add, Bool.not_eq_false, decide_false, decide_true, Bool.not_eq_eq_eq_not, Bool.true_eq, decide_not, Bool.not_not, decide_eq_false_iff_not, eq_self, ne_any_is, ne_any_has, ne_any_not, ne_any_and, ne_any_or, ne_is_any, ne_is_has, ne_is_not, ne_is_and, ne_is_or, ne_has_any, ne_has_is, ne_has_not, ne_has_and, ne_has_or, ne_not_any, ne_not_is, ne_not_has, ne_not_and, ne_not_or, ne_and_any, ne_and_is, ne_and_has, ne_and_not, ne_and_or, ne_or_any, ne_or_is, ne_or_has, ne_or_not, ne_or_and, e, a5, Option.isSome_some]
      exact h
theorem inner_ok {q : Q} (h : R (.l (q.inn.map Q.D)) μ) : fn_inner_selectors [q.D] μ R := by
  show Φ_inner_selectors _ ⟨[.d q.D, .no], μ⟩
  cases q with
  | any => simp only [Φ_inner_selectors, Q.D, xEq_ii, xEq_ss, xEq_nn, xEq_bb, xEq_ni, xEq_in, xNe_ii, xNe_ss, xLt_ii, xGt_ii, xLe_ii, xGe_ii, xAdd_ii, xAdd_ss, xAdd_tt, xAdd_ll, xSub_ii, xMul_ii, xDiv_ii, xMod_ii, xPow_ii, xNeg_i, xInt_i, xInt_b, xLen_t, xLen_l, xLen_s, xLen_d, xTuple_l, xTuple_t, xList_l, xList_t, xIx_t, xIx_l, xIx_s, xIx_di, xIx_ds, at0, at1, at2, at3, at4, at5, at6, at7, xIs_nn, xIs_i, xIs_s, xIs_b, xIs_t, xIs_l, xIs_d, xIsB_n, xIsB_i, xIsB_s, xIsB_b, yInt_i, yInt_b, yInt_n, yInt_s, yInt_t, yInt_l, yBool_i, yBool_b, yBool_n, yBool_s, yBool_t, yBool_l, yStr_i, yStr_b, yStr_n, yStr_s, yStr_t, yStr_l, yTup_i, yTup_b, yTup_n, yTup_s, yTup_t, yTup_l, yLst_i, yLst_n, yLst_s, yLst_t, yLst_l, xIn_l, xIn_it, xIn_il, xIn_sd, xLt_pp, xGt_pp, xLe_pp, xGe_pp, xII, z0, z1, z2, zput0, zput1, zC, zV, zv_d, zv_l, zv_k, zOp, zUn, zlk_d, zlk_l, zlk_k, zlk_b, zls_d, zls_l, zls_k, zfz_d, zfz_l, zfz_k, zfz_b, zfr_l, zfr_k, zfr_d, ztB, zbk, ztT, ztr_b, ztr_i, ztr_n, ztr_t, ztr_l, ztr_s, ztAnd, ztOr, ztNot, zeAnd, zeOr, zeNot, zeIf, zaNil, zaCons, zTup, zLst, zCB, zCall, zCallK, zfdn, zDicK, zpNone, zpSome, zpsk, zSl, zChain, zchk, zSeq, zsNil, zBreak, zCont, zIf, zSet, zs_d, zs_l, zs_k, zs_b, zRet, zr_d, zr_l, zr_k, zr_b, zRetN, zDrop, zFor, ziE, zit_t, zit_l, zit_s, zR1, zr1, zR2, zr2, zgN, zAsg, zgT, zgsC, zgsN, zApp, zap0, zap, zLc, zclr, zclr2, zbck, zkeep_d, zkeep_n, zDP, zdp0, zdp, zky_i, zky_s, xSorted, xNe_bb, zPop, zpopk, zExt, zextk, zextk2, xUpper, xInW, xIxW, xLt_ss, xLe_ss, xGt_ss, xSl_t, xSl_l, xSl_s, zlNil, zlCons, zpin_d, zpin_l, zpin_k, zpin_b, zlkL0, zlkL1, zCallL, zimm_d, zimm_l, zimm_k, zimm_i, zimm_s, zimm_b, zimm_n, zimm_t, zimm_0, zimm_1, zSortSet, List.length_cons, List.length_nil, List.nil_append, List.append_nil, List.cons_append, true_and, and_true, reduceIte, if_true, if_false, decide_eq_true_eq, Bool.not_true, Bool.not_false, Bool.not_eq_true, Bool.false_eq_true, Nat.reduceAdd, Nat.zero_add, Bool.not_eq_false, decide_false, decide_true, Bool.not_eq_eq_eq_not, Bool.true_eq, decide_not, Bool.not_not, decide_eq_false_iff_not, eq_self, ne_any_is, ne_any_has, ne_any_not, ne_any_and, ne_any_or, ne_is_any, ne_is_has, ne_is_not, ne_is_and, ne_is_or, ne_has_any, ne_has_is, ne_has_not, ne_has_and, ne_has_or, ne_not_any, ne_not_is, ne_not_has, ne_not_and, ne_not_or, ne_and_any, ne_and_is, ne_and_has, ne_and_not, ne_and_or, ne_or_any, ne_or_is, ne_or_has, ne_or_not, ne_or_and]; exact ⟨by decide, h⟩
  | has x => simp only [Φ_inner_selectors, Q.D, xEq_ii, xEq_ss, xEq_nn, xEq_bb, xEq_ni, xEq_in, xNe_ii, xNe_ss, xLt_ii, xGt_ii, xLe_ii, xGe_ii, xAdd_ii, xAdd_ss, xAdd_tt, xAdd_ll, xSub_ii, xMul_ii, xDiv_ii, xMod_ii, xPow_ii, xNeg_i, xInt_i, xInt_b, xLen_t, xLen_l, xLen_s, xLen_d, xTuple_l, xTuple_t, xList_l, xList_t, xIx_t, xIx_l, xIx_s, xIx_di, xIx_ds, at0, at1, at2, at3, at4, at5, at6, at7, xIs_nn, xIs_i, xIs_s, xIs_b, xIs_t, xIs_l, xIs_d, xIsB_n, xIsB_i, xIsB_s, xIsB_b, yInt_i, yInt_b, yInt_n, yInt_s, yInt_t, yInt_l, yBool_i, yBool_b, yBool_n, yBool_s, yBool_t, yBool_l, yStr_i, yStr_b, yStr_n, yStr_s, yStr_t, yStr_l, yTup_i, yTup_b, yTup_n, yTup_s, yTup_t, yTup_l, yLst_i, yLst_n, yLst_s, yLst_t, yLst_l, xIn_l, xIn_it, xIn_il, xIn_sd, xLt_pp, xGt_pp, xLe_pp, xGe_pp, xII, z0, z1, z2, zput0, zput1, zC, zV, zv_d, zv_l, zv_k, zOp, zUn, zlk_d, zlk_l, zlk_k, zlk_b, zls_d, zls_l, zls_k, zfz_d, zfz_l, zfz_k, zfz_b, zfr_l, zfr_k, zfr_d, ztB, zbk, ztT, ztr_b, ztr_i, ztr_n, ztr_t, ztr_l, ztr_s, ztAnd, ztOr, ztNot, zeAnd, zeOr, zeNot, zeIf, zaNil, zaCons, zTup, zLst, zCB, zCall, zCallK, zfdn, zDicK, zpNone, zpSome, zpsk, zSl, zChain, zchk, zSeq, zsNil, zBreak, zCont, zIf, zSet, zs_d, zs_l, zs_k, zs_b, zRet, zr_d, zr_l, zr_k, zr_b, zRetN, zDrop, zFor, ziE, zit_t, zit_l, zit_s, zR1, zr1, zR2, zr2, zgN, zAsg, zgT, zgsC, zgsN, zApp, zap0, zap, zLc, zclr, zclr2, zbck, zkeep_d, zkeep_n, zDP, zdp0, zdp, zky_i, zky_s, xSorted, xNe_bb, zPop, zpopk, zExt, zextk, zextk2, xUpper, xInW, xIxW, xLt_ss, xLe_ss, xGt_ss, xSl_t, xSl_l, xSl_s, zlNil, zlCons, zpin_d, zpin_l, zpin_k, zpin_b, zlkL0, zlkL1, zCallL, zimm_d, zimm_l, zimm_k, zimm_i, zimm_s, zimm_b, zimm_n, zimm_t, zimm_0, zimm_1, zSortSet, List.length_cons, List.length_nil, List.nil_append, List.append_nil, List.cons_append, true_and, and_true, reduceIte, if_true, if_false, decide_eq_true_eq, Bool.not_true, Bool.not_false, Bool.not_eq_true, Bool.false_eq_true, Nat.reduceAdd, Nat.zero_add, Bool.not_eq_false, decide_false, decide_true, Bool.not_eq_eq_eq_not, Bool.true_eq, decide_not, Bool.not_not, decide_eq_false_iff_not, eq_self, ne_any_is, ne_any_has, ne_any_not, ne_any_and, ne_any_or, ne_is_any, ne_is_has, ne_is_not, ne_is_and, ne_is_or, ne_has_any, ne_has_is, ne_has_not, ne_has_and, ne_has_or, ne_not_any, ne_not_is, ne_not_has, ne_not_and, ne_not_or, ne_and_any, ne_and_is, ne_and_has, ne_and_not, ne_and_or, ne_or_any, ne_or_is, ne_or_has, ne_or_not, ne_or_and]; exact ⟨by decide, h⟩
  | is x vs => simp only [Φ_inner_selectors, Q.D, xEq_ii, xEq_ss, xEq_nn, xEq_bb, xEq_ni, xEq_in, xNe_ii, xNe_ss, xLt_ii, xGt_ii, xLe_ii, xGe_ii, xAdd_ii, xAdd_ss, xAdd_tt, xAdd_ll, xSub_ii, xMul_ii, xDiv_ii, xMod_ii, xPow_ii, xNeg_i, xInt_i, xInt_b, xLen_t, xLen_l, xLen_s, xLen_d, xTuple_l, xTuple_t, xList_l, xList_t, xIx_t, xIx_l, xIx_s, xIx_di, xIx_ds, at0, at1, at2, at3, at4, at5, at6, at7, xIs_nn, xIs_i, xIs_s, xIs_b, xIs_t, xIs_l, xIs_d, xIsB_n, xIsB_i, xIsB_s, xIsB_b, yInt_i, yInt_b, yInt_n, yInt_s, yInt_t, yInt_l, yBool_i, yBool_b, yBool_n, yBool_s, yBool_t, yBool_l, yStr_i, yStr_b, yStr_n, yStr_s, yStr_t, yStr_l, yTup_i, yTup_b, yTup_n, yTup_s, yTup_t, yTup_l, yLst_i, yLst_n, yLst_s, yLst_t, yLst_l, xIn_l, xIn_it, xIn_il, xIn_sd, xLt_pp, xGt_pp, xLe_pp, xGe_pp, xII, z0, z1, z2, zput0, zput1, zC, zV, zv_d, zv_l, zv_k, zOp, zUn, zlk_d, zlk_l, zlk_k, zlk_b, zls_d, zls_l, zls_k, zfz_d, zfz_l, zfz_k, zfz_b, zfr_l, zfr_k, zfr_d, ztB, zbk, ztT, ztr_b, ztr_i, ztr_n, ztr_t, ztr_l, ztr_s, ztAnd, ztOr, ztNot, zeAnd, zeOr, zeNot, zeIf, zaNil, zaCons, zTup, zLst, zCB, zCall, zCallK, zfdn, zDicK, zpNone, zpSome, zpsk, zSl, zChain, zchk, zSeq, zsNil, zBreak, zCont, zIf, zSet, zs_d, zs_l, zs_k, zs_b, zRet, zr_d, zr_l, zr_k, zr_b, zRetN, zDrop, zFor, ziE, zit_t, zit_l, zit_s, zR1, zr1, zR2, zr2, zgN, zAsg, zgT, zgsC, zgsN, zApp, zap0, zap, zLc, zclr, zclr2, zbck, zkeep_d, zkeep_n, zDP, zdp0, zdp, zky_i, zky_s, xSorted, xNe_bb, zPop, zpopk, zExt, zextk, zextk2, xUpper, xInW, xIxW, xLt_ss, xLe_ss, xGt_ss, xSl_t, xSl_l, xSl_s, zlNil, zlCons, zpin_d, zpin_l, zpin_k, zpin_b, zlkL0, zlkL1, zCallL, zimm_d, zimm_l, zimm_k, zimm_i, zimm_s, zimm_b, zimm_n, zimm_t, zimm_0, zimm_1, zSortSet, List.length_cons, List.length_nil, List.nil_append, List.append_nil, List.cons_append, true_and, and_true, reduceIte, if_true, if_false, decide_eq_true_eq, Bool.not_true, Bool.not_false, Bool.not_eq_true, Bool.false_eq_true, Nat.reduceAdd, Nat.zero_add, Bool.not_eq_false, decide_false, decide_true, Bool.not_eq_eq_eq_not, Bool.true_eq, decide_not, Bool.not_not, decide_eq_false_iff_not, eq_self, ne_any_is, ne_any_has, ne_any_not, ne_any_and, ne_any_or, ne_is_any, ne_is_has, ne_is_not, ne_is_and, ne_is_or, ne_has_any, ne_has_is, ne_has_not, ne_has_and, ne_has_or, ne_not_any, ne_not_is, ne_not_has, ne_not_and, ne_not_or, ne_and_any, ne_and_is, ne_and_has, ne_and_not, ne_and_or, ne_or_any, ne_or_is, ne_or_has, ne_or_not, ne_or_and]; exact ⟨by decide, h⟩
  | no q => simp only [Φ_inner_selectors, Q.D, xEq_ii, xEq_ss, xEq_nn, xEq_bb, xEq_ni, xEq_in, xNe_ii, xNe_ss, xLt_ii, xGt_ii, xLe_ii, xGe_ii, xAdd_ii, xAdd_ss, xAdd_tt, xAdd_ll, xSub_ii, xMul_ii, xDiv_ii, xMod_ii, xPow_ii, xNeg_i, xInt_i, xInt_b, xLen_t, xLen_l, xLen_s, xLen_d, xTuple_l, xTuple_t, xList_l, xList_t, xIx_t, xIx_l, xIx_s, xIx_di, xIx_ds, at0, at1, at2, at3, at4, at5, at6, at7, xIs_nn, xIs_i, xIs_s, xIs_b, xIs_t, xIs_l, xIs_d, xIsB_n, xIsB_i, xIsB_s, xIsB_b, yInt_i, yInt_b, yInt_n, yInt_s, yInt_t, yInt_l, yBool_i, yBool_b, yBool_n, yBool_s, yBool_t, yBool_l, yStr_i, yStr_b, yStr_n, yStr_s, yStr_t, yStr_l, yTup_i, yTup_b, yTup_n, yTup_s, yTup_t, yTup_l, yLst_i, yLst_n, yLst_s, yLst_t, yLst_l, xIn_l, xIn_it, xIn_il, xIn_sd, xLt_pp, xGt_pp, xLe_pp, xGe_pp, xII, z0, z1, z2, zput0, zput1, zC, zV, zv_d, zv_l, zv_k, zOp, zUn, zlk_d, zlk_l, zlk_k, zlk_b, zls_d, zls_l, zls_k, zfz_d, zfz_l, zfz_k, zfz_b, zfr_l, zfr_k, zfr_d, ztB, zbk, ztT, ztr_b, ztr_i, ztr_n, ztr_t, ztr_l, ztr_s, ztAnd, ztOr, ztNot, zeAnd, zeOr, zeNot, zeIf, zaNil, zaCons, zTup, zLst, zCB, zCall, zCallK, zfdn, zDicK, zpNone, zpSome, zpsk, zSl, zChain, zchk, zSeq, zsNil, zBreak, zCont, zIf, zSet, zs_d, zs_l, zs_k, zs_b, zRet, zr_d, zr_l, zr_k, zr_b, zRetN, zDrop, zFor, ziE, zit_t, zit_l, zit_s, zR1, zr1, zR2, zr2, zgN, zAsg, zgT, zgsC, zgsN, zApp, zap0, zap, zLc, zclr, zclr2, zbck, zkeep_d, zkeep_n, zDP, zdp0, zdp, zky_i, zky_s, xSorted, xNe_bb, zPop, zpopk, zExt, zextk, zextk2, xUpper, xInW, xIxW, xLt_ss, xLe_ss, xGt_ss, xSl_t, xSl_l, xSl_s, zlNil, zlCons, zpin_d, zpin_l, zpin_k, zpin_b, zlkL0, zlkL1, zCallL, zimm_d, zimm_l, zimm_k, zimm_i, zimm_s, zimm_b, zimm_n, zimm_t, zimm_0, zimm_1, zSortSet, List.length_cons, List.length_nil, List.nil_append, List.append_nil, List.cons_append, true_and, and_true, reduceIte, if_true, if_false, decide_eq_true_eq, Bool.not_true, Bool.not_false, Bool.not_eq_true, Bool.false_eq_true, Nat.reduceAdd, Nat.zero_add, Bool.not_eq_false, decide_false, decide_true, Bool.not_eq_eq_eq_not, Bool.true_eq, decide_not, Bool.not_not, decide_eq_false_iff_not, eq_self, ne_any_is, ne_any_has, ne_any_not, ne_any_and, ne_any_or, ne_is_any, ne_is_has, ne_is_not, ne_is_and, ne_is_or, ne_has_any, ne_has_is, ne_has_not, ne_has_and, ne_has_or, ne_not_any, ne_not_is, ne_not_has, ne_not_and, ne_not_or, ne_and_any, ne_and_is, ne_and_has, ne_and_not, ne_and_or, ne_or_any, ne_or_is, ne_or_has, ne_or_not, ne_or_and]; exact ⟨by decide, h⟩
  | bo a p q =>
    cases a
    · simp only [Φ_inner_selectors, Q.D, xEq_ii, xEq_ss, xEq_nn, xEq_bb, xEq_ni, xEq_in, xNe_ii, xNe_ss, xLt_ii, xGt_ii, xLe_ii, xGe_ii, xAdd_ii, xAdd_ss, xAdd_tt, xAdd_ll, xSub_ii, xMul_ii, xDiv_ii, xMod_ii, xPow_ii, xNeg_i, xInt_i, xInt_b, xLen_t, xLen_l, xLen_s, xLen_d, xTuple_l, xTuple_t, xList_l, xList_t, xIx_t, xIx_l, xIx_s, xIx_di, xIx_ds, at0, at1, at2, at3, at4, at5, at6, at7, xIs_nn, xIs_i, xIs_s, xIs_b, xIs_t, xIs_l, xIs_d, xIsB_n, xIsB_i, xIsB_s, xIsB_b, yInt_i, yInt_b, yInt_n, yInt_s, yInt_t, yInt_l, yBool_i, yBool_b, yBool_n, yBool_s, yBool_t, yBool_l, yStr_i, yStr_b, yStr_n, yStr_s, yStr_t, yStr_l, yTup_i, yTup_b, yTup_n, yTup_s, yTup_t, yTup_l, yLst_i, yLst_n, yLst_s, yLst_t, yLst_l, xIn_l, xIn_it, xIn_il, xIn_sd, xLt_pp, xGt_pp, xLe_pp, xGe_pp, xII, z0, z1, z2, zput0, zput1, zC, zV, zv_d, zv_l, zv_k, zOp, zUn, zlk_d, zlk_l, zlk_k, zlk_b, zls_d, zls_l, zls_k, zfz_d, zfz_l, zfz_k, zfz_b, zfr_l, zfr_k, zfr_d, ztB, zbk, ztT, ztr_b, ztr_i, ztr_n, ztr_t, ztr_l, ztr_s, ztAnd, ztOr, ztNot, zeAnd, zeOr, zeNot, zeIf, zaNil, zaCons, zTup, zLst, zCB, zCall, zCallK, zfdn, zDicK, zpNone, zpSome, zpsk, zSl, zChain, zchk, zSeq, zsNil, zBreak, zCont, zIf, zSet, zs_d, zs_l, zs_k, zs_b, zRet, zr_d, zr_l, zr_k, zr_b, zRetN, zDrop, zFor, ziE, zit_t, zit_l, zit_s, zR1, zr1, zR2, zr2, zgN, zAsg, zgT, zgsC, zgsN, zApp, zap0, zap, zLc, zclr, zclr2, zbck, zkeep_d, zkeep_n, zDP, zdp0, zdp, zky_i, zky_s, xSorted, xNe_bb, zPop, zpopk, zExt, zextk, zextk2, xUpper, xInW, xIxW, xLt_ss, xLe_ss, xGt_ss, xSl_t, xSl_l, xSl_s, zlNil, zlCons, zpin_d, zpin_l, zpin_k, zpin_b, zlkL0, zlkL1, zCallL, zimm_d, zimm_l, zimm_k, zimm_i, zimm_s, zimm_b, zimm_n, zimm_t, zimm_0, zimm_1, zSortSet, List.length_cons, List.length_nil, List.nil_append, List.append_nil, List.cons_append, true_and, and_true, reduceIte, if_true, if_false, decide_eq_true_eq, Bool.not_true, Bool.not_false, Bool.not_eq_true, Bool.false_eq_true, Nat.reduceAdd, Nat.zero_add, Bool.not_eq_false, decide_false, decide_true, Bool.not_eq_eq_eq_not, Bool.true_eq, decide_not, Bool.not_not, decide_eq_false_iff_not, eq_self, ne_any_is, ne_any_has, ne_any_not, ne_any_and, ne_any_or, ne_is_any, ne_is_has, ne_is_not, ne_is_and, ne_is_or, ne_has_any, ne_has_is, ne_has_not, ne_has_and, ne_has_or, ne_not_any, ne_not_is, ne_not_has, ne_not_and, ne_not_or, ne_and_any, ne_and_is, ne_and_has, ne_and_not, ne_and_or, ne_or_any, ne_or_is, ne_or_has, ne_or_not, ne_or_and]; exact ⟨by decide, h⟩
    · simp only [Φ_inner_selectors, Q.D, xEq_ii, xEq_ss, xEq_nn, xEq_bb, xEq_ni, xEq_in, xNe_ii, xNe_ss, xLt_ii, xGt_ii, xLe_ii, xGe_ii, xAdd_ii, xAdd_ss, xAdd_tt, xAdd_ll, xSub_ii, xMul_ii, xDiv_ii, xMod_ii, xPow_ii, xNeg_i, xInt_i, xInt_b, xLen_t, xLen_l, xLen_s, xLen_d, xTuple_l, xTuple_t, xList_l, xList_t, xIx_t, xIx_l, xIx_s, xIx_di, xIx_ds, at0, at1, at2, at3, at4, at5, at6, at7, xIs_nn, xIs_i, xIs_s, xIs_b, xIs_t, xIs_l, xIs_d, xIsB_n, xIsB_i, xIsB_s, xIsB_b, yInt_i, yInt_b, yInt_n, yInt_s, yInt_t, yInt_l, yBool_i, yBool_b, yBool_n, yBool_s, yBool_t, yBool_l, yStr_i, yStr_b, yStr_n, yStr_s, yStr_t, yStr_l, yTup_i, yTup_b, yTup_n, yTup_s, yTup_t, yTup_l, yLst_i, yLst_n, yLst_s, yLst_t, yLst_l, xIn_l, xIn_it, xIn_il, xIn_sd, xLt_pp, xGt_pp, xLe_pp, xGe_pp, xII, z0, z1, z2, zput0, zput1, zC, zV, zv_d, zv_l, zv_k, zOp, zUn, zlk_d, zlk_l, zlk_k, zlk_b, zls_d, zls_l, zls_k, zfz_d, zfz_l, zfz_k, zfz_b, zfr_l, zfr_k, zfr_d, ztB, zbk, ztT, ztr_b, ztr_i, ztr_n, ztr_t, ztr_l, ztr_s, ztAnd, ztOr, ztNot, zeAnd, zeOr, zeNot, zeIf, zaNil, zaCons, zTup, zLst, zCB, zCall, zCallK, zfdn, zDicK, zpNone, zpSome, zpsk, zSl, zChain, zchk, zSeq, zsNil, zBreak, zCont, zIf, zSet, zs_d, zs_l, zs_k, zs_b, zRet, zr_d, zr_l, zr_k, zr_b, zRetN, zDrop, zFor, ziE, zit_t, zit_l, zit_s, zR1, zr1, zR2, zr2, zgN, zAsg, zgT, zgsC, zgsN, zApp, zap0, zap, zLc, zclr, zclr2, zbck, zkeep_d, zkeep_n, zDP, zdp0, zdp, zky_i, zky_s, xSorted, xNe_bb, zPop, zpopk, zExt, zextk, zextk2, xUpper, xInW, xIxW, xLt_ss, xLe_ss, xGt_ss, xSl_t, xSl_l, xSl_s, zlNil, zlCons, zpin_d, zpin_l, zpin_k, zpin_b, zlkL0, zlkL1, zCallL, zimm_d, zimm_l, zimm_k, zimm_i, zimm_s, zimm_b, zimm_n, zimm_t, zimm_0, zimm_1, zSortSet, List.length_cons, List.length_nil, List.nil_append, List.append_nil, List.cons_append, true_and, and_true, reduceIte, if_true, if_false, decide_eq_true_eq, Bool.not_true, Bool.not_false, Bool.not_eq_true, Bool.false_eq_true, Nat.reduceAdd, Nat.zero_add, Bool.not_eq_false, decide_false, decide_true, Bool.not_eq_eq_eq_not, Bool.true_eq, decide_not, Bool.not_not, decide_eq_false_iff_not, eq_self, ne_any_is, ne_any_has, ne_any_not, ne_any_and, ne_any_or, ne_is_any, ne_is_has, ne_is_not, ne_is_and, ne_is_or, ne_has_any, ne_has_is, ne_has_not, ne_has_and, ne_has_or, ne_not_any, ne_not_is, ne_not_has, ne_not_and, ne_not_or, ne_and_any, ne_and_is, ne_and_has, ne_and_not, ne_and_or, ne_or_any, ne_or_is, ne_or_has, ne_or_not, ne_or_and]; exact ⟨by decide, h⟩
def Qs.n (l : List Q) : Nat := (l.map Q.n).sum
theorem Qs.app (a b : List Q) : Qs.n (a ++ b) = Qs.n a + Qs.n b := by simp [Qs.n]
theorem Q.inn_n (q : Q) : Qs.n q.inn + 1 = q.n := by cases q <;> simp [Q.inn, Q.n, Qs.n]
theorem Q.inn_ok {q : Q} (o : q.Ok) : ∀ p ∈ q.inn, p.Ok := by
  cases q with
  | no q => intro p hp; rw [List.mem_singleton.mp hp]; exact o
  | bo a x y =>
    intro p hp
    simp only [Q.inn, List.mem_cons, List.not_mem_nil, or_false] at hp
    rcases hp with rfl | rfl
    · exact o.1
    · exact o.2
  | _ => intro p hp; cases hp
theorem Q.pos (q : Q) : 0 < q.n := by cases q <;> simp [Q.n]
theorem Qs.len (l : List Q) : l.length ≤ Qs.n l := by
  induction l with
  | nil => exact Nat.le_refl _
  | cons a l ih =>
    have := a.pos
    simp only [Qs.n, List.length_cons, List.map_cons, List.sum_cons] at ih ⊢
    omega
theorem stack_loop : ∀ (f : Nat) (st : List Q) (k : Int) (x : Sl), 0 ≤ k → Qs.n st < f → k + Qs.n st ≤ 60 → (∀ q ∈ st, q.Ok) → (∀ k x, Δ.nx ⟨[.d w, .l [], .d (.int k), x], μ⟩) →
    whN T_is_selector_1 B_is_selector_0 Δ f ⟨[.d w, .l (st.map Q.D), .d (.int k), x], μ⟩
  | 0, st, k, x, _, hf, _, _, _ => by omega
  | f + 1, st, k, x, k0, hf, hk, ho, h => by
    simp only [whN, T_is_selector_1_eq, xEq_ii, xEq_ss, xEq_nn, xEq_bb, xEq_ni, xEq_in, xNe_ii, xNe_ss, xLt_ii, xGt_ii, xLe_ii, xGe_ii, xAdd_ii, xAdd_ss, xAdd_tt, xAdd_ll, xSub_ii, xMul_ii, xDiv_ii, xMod_ii, xPow_ii, xNeg_i, xInt_i, xInt_b, xLen_t, xLen_l, xLen_s, xLen_d, xTuple_l, xTuple_t, xList_l, xList_t, xIx_t, xIx_l, xIx_s, xIx_di, xIx_ds, at0, at1, at2, at3, at4, at5, at6, at7, xIs_nn, xIs_i, xIs_s, xIs_b, xIs_t, xIs_l, xIs_d, xIsB_n, xIsB_i, xIsB_s, xIsB_b, yInt_i, yInt_b, yInt_n, yInt_s, yInt_t, yInt_l, yBool_i, yBool_b, yBool_n, yBool_s, yBool_t, yBool_l, yStr_i, yStr_b, yStr_n, yStr_s, yStr_t, yStr_l, yTup_i, yTup_b, yTup_n, yTup_s, yTup_t, yTup_l, yLst_i, yLst_n, yLst_s, yLst_t, yLst_l, xIn_l, xIn_it, xIn_il, xIn_sd, xLt_pp, xGt_pp, xLe_pp, xGe_pp, xII, z0, z1, z2, zput0, zput1, zC, zV, zv_d, zv_l, zv_k, zOp, zUn, zlk_d, zlk_l, zlk_k, zlk_b, zls_d, zls_l, zls_k, zfz_d, zfz_l, zfz_k, zfz_b, zfr_l, zfr_k, zfr_d, ztB, zbk, ztT, ztr_b, ztr_i, ztr_n, ztr_t, ztr_l, ztr_s, ztAnd, ztOr, ztNot, zeAnd, zeOr, zeNot, zeIf, zaNil, zaCons, zTup, zLst, zCB, zCall, zCallK, zfdn, zDicK, zpNone, zpSome, zpsk, zSl, zChain, zchk, zSeq, zsNil, zBreak, zCont, zIf, zSet, zs_d, zs_l, zs_k, zs_b, zRet, zr_d, zr_l, zr_k, zr_b, zRetN, zDrop, zFor, ziE, zit_t, zit_l, zit_s, zR1, zr1, zR2, zr2, zgN, zAsg, zgT, zgsC, zgsN, zApp, zap0, zap, zLc, zclr, zclr2, zbck, zkeep_d, zkeep_n, zDP, zdp0, zdp, zky_i, zky_s, xSorted, xNe_bb, zPop, zpopk, zExt, zextk, zextk2, xUpper, xInW, xIxW, xLt_ss, xLe_ss, xGt_ss, xSl_t, xSl_l, xSl_s, zlNil, zlCons, zpin_d, zpin_l, zpin_k, zpin_b, zlkL0, zlkL1, zCallL, zimm_d, zimm_l, zimm_k, zimm_i, zimm_s, zimm_b, zimm_n, zimm_t, zimm_0, zimm_1, zSortSet, List.length_cons, List.length_nil, List.nil_append, List.append_nil, List.cons_append, true_and, and_true, reduceIte, if_true, if_false, decide_eq_true_eq, Bool.not_true, Bool.not_false, Bool.not_eq_true, Bool.false_eq_true, Nat.reduceAdd, Nat.zero_add, Bool.not_eq_false, decide_false, decide_true, Bool.not_eq_eq_eq_not, Bool.true_eq, decide_not, Bool.not_not, decide_eq_false_iff_not, eq_self]
    cases hs : st.getLast? with
    | none =>
      have e : st = [] := List.getLast?_eq_none_iff.mp hs
      subst e
      simp only [List.map_nil, List.isEmpty_nil, xEq_ii, xEq_ss, xEq_nn, xEq_bb, xEq_ni, xEq_in, xNe_ii, xNe_ss, xLt_ii, xGt_ii, xLe_ii, xGe_ii, xAdd_ii, xAdd_ss, xAdd_tt, xAdd_ll, xSub_ii, xMul_ii, xDiv_ii, xMod_ii, xPow_ii, xNeg_i, xInt_i, xInt_b, xLen_t, xLen_l, xLen_s, xLen_d, xTuple_l, xTuple_t, xList_l, xList_t, xIx_t, xIx_l, xIx_s, xIx_di, xIx_ds, at0, at1, at2, at3, at4, at5, at6, at7, xIs_nn, xIs_i, xIs_s, xIs_b, xIs_t, xIs_l, xIs_d, xIsB_n, xIsB_i, xIsB_s, xIsB_b, yInt_i, yInt_b, yInt_n, yInt_s, yInt_t, yInt_l, yBool_i, yBool_b, yBool_n, yBool_s, yBool_t, yBool_l, yStr_i, yStr_b, yStr_n, yStr_s, yStr_t, yStr_l, yTup_i, yTup_b, yTup_n, yTup_s, yTup_t, yTup_l, yLst_i, yLst_n, yLst_s, yLst_t, yLst_l, xIn_l, xIn_it, xIn_il, xIn_sd, xLt_pp, xGt_pp, xLe_pp, xGe_pp, xII, z0, z1, z2, zput0, zput1, zC, zV, zv_d, zv_l, zv_k, zOp, zUn, zlk_d, zlk_l, zlk_k, zlk_b, zls_d, zls_l, zls_k, zfz_d, zfz_l, zfz_k, zfz_b, zfr_l, zfr_k, zfr_d, ztB, zbk, ztT, ztr_b, ztr_i, ztr_n, ztr_t, ztr_l, ztr_s, ztAnd, ztOr, ztNot, zeAnd, zeOr, zeNot, zeIf, zaNil, zaCons, zTup, zLst, zCB, zCall, zCallK, zfdn, zDicK, zpNone, zpSome, zpsk, zSl, zChain, zchk, zSeq, zsNil, zBreak, zCont, zIf, zSet, zs_d, zs_l, zs_k, zs_b, zRet, zr_d, zr_l, zr_k, zr_b, zRetN, zDrop, zFor, ziE, zit_t, zit_l, zit_s, zR1, zr1, zR2, zr2, zgN, zAsg, zgT, zgsC, zgsN, zApp, zap0, zap, zLc, zclr, zclr2, zbck, zkeep_d, zkeep_n, zDP, zdp0, zdp, zky_i, zky_s, xSorted, xNe_bb, zPop, zpopk, zExt, zextk, zextk2, xUpper, xInW, xIxW, xLt_ss, xLe_ss, xGt_ss, xSl_t, xSl_l, xSl_s, zlNil, zlCons, zpin_d, zpin_l, zpin_k, zpin_b, zlkL0, zlkL1, zCallL, zimm_d, zimm_l, zimm_k, zimm_i, zimm_s, zimm_b, zimm_n, zimm_t, zimm_0, zimm_1, zSortSet, List.length_cons, List.length_nil, List.nil_append, List.append_nil, List.cons_append, true_and, and_true, reduceIte, if_true, if_false, decide_eq_true_eq, Bool.not_true, Bool.not_false, Bool.not_eq_true, Bool.false_eq_true, Nat.reduceAdd, Nat.zero_add, Bool.not_eq_false, decide_false, decide_true, Bool.not_eq_eq_eq_not, Bool.true_eq, decide_not, Bool.not_not, decide_eq_false_iff_not, eq_self]
      exact h _ _
    | some q =>
      obtain ⟨r, rfl⟩ : ∃ r, st = r ++ [q] := ⟨st.dropLast, by
        have hne : st ≠ [] := fun z => by rw [z] at hs; cases hs
        rw [List.getLast?_eq_some_getLast hne] at hs
        have := List.dropLast_concat_getLast hne
        rw [Option.some.inj hs] at this
        exact this.symm⟩
      have ne : ((r ++ [q]).map Q.D).isEmpty = false := by simp
      have gl : ((r ++ [q]).map Q.D).getLast? = some q.D := by simp
      have dl : ((r ++ [q]).map Q.D).dropLast = r.map Q.D := by simp
      have oq : q.Ok := ho q (by simp)
      have n1 : Qs.n (r ++ [q]) = Qs.n r + q.n := by rw [Qs.app]; simp [Qs.n]
      have n2 := q.inn_n
      have n3 := Qs.len r
      have n4 := Qs.len q.inn
      have hk60 : ¬ (60 : Int) < k + 1 := by omega
      have big : 1000 < sizeLine := by decide
      simp only [ne, xEq_ii, xEq_ss, xEq_nn, xEq_bb, xEq_ni, xEq_in, xNe_ii, xNe_ss, xLt_ii, xGt_ii, xLe_ii, xGe_ii, xAdd_ii, xAdd_ss, xAdd_tt, xAdd_ll, xSub_ii, xMul_ii, xDiv_ii, xMod_ii, xPow_ii, xNeg_i, xInt_i, xInt_b, xLen_t, xLen_l, xLen_s, xLen_d, xTuple_l, xTuple_t, xList_l, xList_t, xIx_t, xIx_l, xIx_s, xIx_di, xIx_ds, at0, at1, at2, at3, at4, at5, at6, at7, xIs_nn, xIs_i, xIs_s, xIs_b, xIs_t, xIs_l, xIs_d, xIsB_n, xIsB_i, xIsB_s, xIsB_b, yInt_i, yInt_b, yInt_n, yInt_s, yInt_t, yInt_l, yBool_i, yBool_b, yBool_n, yBool_s, yBool_t, yBool_l, yStr_i, yStr_b, yStr_n, yStr_s, yStr_t, yStr_l, yTup_i, yTup_b, yTup_n, yTup_s, yTup_t, yTup_l, yLst_i, yLst_n, yLst_s, yLst_t, yLst_l, xIn_l, xIn_it, xIn_il, xIn_sd, xLt_pp, xGt_pp, xLe_pp, xGe_pp, xII, z0, z1, z2, zput0, zput1, zC, zV, zv_d, zv_l, zv_k, zOp, zUn, zlk_d, zlk_l, zlk_k, zlk_b, zls_d, zls_l, zls_k, zfz_d, zfz_l, zfz_k, zfz_b, zfr_l, zfr_k, zfr_d, ztB, zbk, ztT, ztr_b, ztr_i, ztr_n, ztr_t, ztr_l, ztr_s, ztAnd, ztOr, ztNot, zeAnd, zeOr, zeNot, zeIf, zaNil, zaCons, zTup, zLst, zCB, zCall, zCallK, zfdn, zDicK, zpNone, zpSome, zpsk, zSl, zChain, zchk, zSeq, zsNil, zBreak, zCont, zIf, zSet, zs_d, zs_l, zs_k, zs_b, zRet, zr_d, zr_l, zr_k, zr_b, zRetN, zDrop, zFor, ziE, zit_t, zit_l, zit_s, zR1, zr1, zR2, zr2, zgN, zAsg, zgT, zgsC, zgsN, zApp, zap0, zap, zLc, zclr, zclr2, zbck, zkeep_d, zkeep_n, zDP, zdp0, zdp, zky_i, zky_s, xSorted, xNe_bb, zPop, zpopk, zExt, zextk, zextk2, xUpper, xInW, xIxW, xLt_ss, xLe_ss, xGt_ss, xSl_t, xSl_l, xSl_s, zlNil, zlCons, zpin_d, zpin_l, zpin_k, zpin_b, zlkL0, zlkL1, zCallL, zimm_d, zimm_l, zimm_k, zimm_i, zimm_s, zimm_b, zimm_n, zimm_t, zimm_0, zimm_1, zSortSet, List.length_cons, List.length_nil, List.nil_append, List.append_nil, List.cons_append, true_and, and_true, reduceIte, if_true, if_false, decide_eq_true_eq, Bool.not_true, Bool.not_false, Bool.not_eq_true, Bool.false_eq_true, Nat.reduceAdd, Nat.zero_add, Bool.not_eq_false, decide_false, decide_true, Bool.not_eq_eq_eq_not, Bool.true_eq, decide_not, Bool.not_not, decide_eq_false_iff_not, eq_self, B_is_selector_0_eq, gl, dl, hk60]
      refine is_part_ok oq ?_
      simp only [xEq_ii, xEq_ss, xEq_nn, xEq_bb, xEq_ni, xEq_in, xNe_ii, xNe_ss, xLt_ii, xGt_ii, xLe_ii, xGe_ii, xAdd_ii, xAdd_ss, xAdd_tt, xAdd_ll, xSub_ii, xMul_ii, xDiv_ii, xMod_ii, xPow_ii, xNeg_i, xInt_i, xInt_b, xLen_t, xLen_l, xLen_s, xLen_d, xTuple_l, xTuple_t, xList_l, xList_t, xIx_t, xIx_l, xIx_s, xIx_di, xIx_ds, at0, at1, at2, at3, at4, at5, at6, at7, xIs_nn, xIs_i, xIs_s, xIs_b, xIs_t, xIs_l, xIs_d, xIsB_n, xIsB_i, xIsB_s, xIsB_b, yInt_i, yInt_b, yInt_n, yInt_s, yInt_t, yInt_l, yBool_i, yBool_b, yBool_n, yBool_s, yBool_t, yBool_l, yStr_i, yStr_b, yStr_n, yStr_s, yStr_t, yStr_l, yTup_i, yTup_b, yTup_n, yTup_s, yTup_t, yTup_l, yLst_i, yLst_n, yLst_s, yLst_t, yLst_l, xIn_l, xIn_it, xIn_il, xIn_sd, xLt_pp, xGt_pp, xLe_pp, xGe_pp, xII, z0, z1, z2, zput0, zput1, zC, zV, zv_d, zv_l, zv_k, zOp, zUn, zlk_d, zlk_l, zlk_k, zlk_b, zls_d, zls_l, zls_k, zfz_d, zfz_l, zfz_k, zfz_b, zfr_l, zfr_k, zfr_d, ztB, zbk, ztT, ztr_b, ztr_i, ztr_n, ztr_t, ztr_l, ztr_s, ztAnd, ztOr, ztNot, zeAnd, zeOr, zeNot, zeIf, zaNil, zaCons, zTup, zLst, zCB, zCall, zCallK, zfdn, zDicK, zpNone, zpSome, zpsk, zSl, zChain, zchk, zSeq, zsNil, zBreak, zCont, zIf, zSet, zs_d, zs_l, zs_k, zs_b, zRet, zr_d, zr_l, zr_k, zr_b, zRetN, zDrop, zFor, ziE, zit_t, zit_l, zit_s, zR1, zr1, zR2, zr2, zgN, zAsg, zgT, zgsC, zgsN, zApp, zap0, zap, zLc, zclr, zclr2, zbck, zkeep_d, zkeep_n, zDP, zdp0, zdp, zky_i, zky_s, xSorted, xNe_bb, zPop, zpopk, zExt, zextk, zextk2, xUpper, xInW, xIxW, xLt_ss, xLe_ss, xGt_ss, xSl_t, xSl_l, xSl_s, zlNil, zlCons, zpin_d, zpin_l, zpin_k, zpin_b, zlkL0, zlkL1, zCallL, zimm_d, zimm_l, zimm_k, zimm_i, zimm_s, zimm_b, zimm_n, zimm_t, zimm_0, zimm_1, zSortSet, List.length_cons, List.length_nil, List.nil_append, List.append_nil, List.cons_append, true_and, and_true, reduceIte, if_true, if_false, decide_eq_true_eq, Bool.not_true, Bool.not_false, Bool.not_eq_true, Bool.false_eq_true, Nat.reduceAdd, Nat.zero_add, Bool.not_eq_false, decide_false, decide_true, Bool.not_eq_eq_eq_not, Bool.true_eq, decide_not, Bool.not_not, decide_eq_false_iff_not, eq_self]
      refine inner_ok ?_
      simp only [xEq_ii, xEq_ss, xEq_nn, xEq_bb, xEq_ni, xEq_in, xNe_ii, xNe_ss, xLt_ii, xGt_ii, xLe_ii, xGe_ii, xAdd_ii, xAdd_ss, xAdd_tt, xAdd_ll, xSub_ii, xMul_ii, xDiv_ii, xMod_ii, xPow_ii, xNeg_i, xInt_i, xInt_b, xLen_t, xLen_l, xLen_s, xLen_d, xTuple_l, xTuple_t, xList_l, xList_t, xIx_t, xIx_l, xIx_s, xIx_di, xIx_ds, at0, at1, at2, at3, at4, at5, at6, at7, xIs_nn, xIs_i, xIs_s, xIs_b, xIs_t, xIs_l, xIs_d, xIsB_n, xIsB_i, xIsB_s, xIsB_b, yInt_i, yInt_b, yInt_n, yInt_s, yInt_t, yInt_l, yBool_i, yBool_b, yBool_n, yBool_s, yBool_t, yBool_l, yStr_i, yStr_b, yStr_n, yStr_s, yStr_t, yStr_l, yTup_i, yTup_b, yTup_n, yTup_s, yTup_t, yTup_l, yLst_i, yLst_n, yLst_s, yLst_t, yLst_l, xIn_l, xIn_it, xIn_il, xIn_sd, xLt_pp, xGt_pp, xLe_pp, xGe_pp, xII, z0, z1, z2, zput0, zput1, zC, zV, zv_d, zv_l, zv_k, zOp, zUn, zlk_d, zlk_l, zlk_k, zlk_b, zls_d, zls_l, zls_k, zfz_d, zfz_l, zfz_k, zfz_b, zfr_l, zfr_k, zfr_d, ztB, zbk, ztT, ztr_b, ztr_i, ztr_n, ztr_t, ztr_l, ztr_s, ztAnd, ztOr, ztNot, zeAnd, zeOr, zeNot, zeIf, zaNil, zaCons, zTup, zLst, zCB, zCall, zCallK, zfdn, zDicK, zpNone, zpSome, zpsk, zSl, zChain, zchk, zSeq, zsNil, zBreak, zCont, zIf, zSet, zs_d, zs_l, zs_k, zs_b, zRet, zr_d, zr_l, zr_k, zr_b, zRetN, zDrop, zFor, ziE, zit_t, zit_l, zit_s, zR1, zr1, zR2, zr2, zgN, zAsg, zgT, zgsC, zgsN, zApp, zap0, zap, zLc, zclr, zclr2, zbck, zkeep_d, zkeep_n, zDP, zdp0, zdp, zky_i, zky_s, xSorted, xNe_bb, zPop, zpopk, zExt, zextk, zextk2, xUpper, xInW, xIxW, xLt_ss, xLe_ss, xGt_ss, xSl_t, xSl_l, xSl_s, zlNil, zlCons, zpin_d, zpin_l, zpin_k, zpin_b, zlkL0, zlkL1, zCallL, zimm_d, zimm_l, zimm_k, zimm_i, zimm_s, zimm_b, zimm_n, zimm_t, zimm_0, zimm_1, zSortSet, List.length_cons, List.length_nil, List.nil_append, List.append_nil, List.cons_append, true_and, and_true, reduceIte, if_true, if_false, decide_eq_true_eq, Bool.not_true, Bool.not_false, Bool.not_eq_true, Bool.false_eq_true, Nat.reduceAdd, Nat.zero_add, Bool.not_eq_false, decide_false, decide_true, Bool.not_eq_eq_eq_not, Bool.true_eq, decide_not, Bool.not_not, decide_eq_false_iff_not, eq_self, List.length_map]
      refine ⟨by omega, ?_⟩
      rw [← List.map_append]
      refine stack_loop f (r ++ q.inn) (k + 1) _ (by omega) ?_ ?_ (fun p hp => ?_) h
      · rw [Qs.app]; omega
      · rw [Qs.app]; omega
      · rcases List.mem_append.mp hp with hp | hp
        · exact ho p (by simp [hp])
        · exact Q.inn_ok oq p hp
theorem is_selector_ok {q : Q} (o : q.Ok) (hn : q.n ≤ 60) (h : R (.d (.bl true)) μ) : fn_is_selector [q.D] μ R := by
  show Φ_is_selector _ ⟨[.d q.D, .no, .no, .no], μ⟩
  simp only [Φ_is_selector, xEq_ii, xEq_ss, xEq_nn, xEq_bb, xEq_ni, xEq_in, xNe_ii, xNe_ss, xLt_ii, xGt_ii, xLe_ii, xGe_ii, xAdd_ii, xAdd_ss, xAdd_tt, xAdd_ll, xSub_ii, xMul_ii, xDiv_ii, xMod_ii, xPow_ii, xNeg_i, xInt_i, xInt_b, xLen_t, xLen_l, xLen_s, xLen_d, xTuple_l, xTuple_t, xList_l, xList_t, xIx_t, xIx_l, xIx_s, xIx_di, xIx_ds, at0, at1, at2, at3, at4, at5, at6, at7, xIs_nn, xIs_i, xIs_s, xIs_b, xIs_t, xIs_l, xIs_d, xIsB_n, xIsB_i, xIsB_s, xIsB_b, yInt_i, yInt_b, yInt_n, yInt_s, yInt_t, yInt_l, yBool_i, yBool_b, yBool_n, yBool_s, yBool_t, yBool_l, yStr_i, yStr_b, yStr_n, yStr_s, yStr_t, yStr_l, yTup_i, yTup_b, yTup_n, yTup_s, yTup_t, yTup_l, yLst_i, yLst_n, yLst_s, yLst_t, yLst_l, xIn_l, xIn_it, xIn_il, xIn_sd, xLt_pp, xGt_pp, xLe_pp, xGe_pp, xII, z0, z1, z2, zput0, zput1, zC, zV, zv_d, zv_l, zv_k, zOp, zUn, zlk_d, zlk_l, zlk_k, zlk_b, zls_d, zls_l, zls_k, zfz_d, zfz_l, zfz_k, zfz_b, zfr_l, zfr_k, zfr_d, ztB, zbk, ztT, ztr_b, ztr_i, ztr_n, ztr_t, ztr_l, ztr_s, ztAnd, ztOr, ztNot, zeAnd, zeOr, zeNot, zeIf, zaNil, zaCons, zTup, zLst, zCB, zCall, zCallK, zfdn, zDicK, zpNone, zpSome, zpsk, zSl, zChain, zchk, zSeq, zsNil, zBreak, zCont, zIf, zSet, zs_d, zs_l, zs_k, zs_b, zRet, zr_d, zr_l, zr_k, zr_b, zRetN, zDrop, zFor, ziE, zit_t, zit_l, zit_s, zR1, zr1, zR2, zr2, zgN, zAsg, zgT, zgsC, zgsN, zApp, zap0, zap, zLc, zclr, zclr2, zbck, zkeep_d, zkeep_n, zDP, zdp0, zdp, zky_i, zky_s, xSorted, xNe_bb, zPop, zpopk, zExt, zextk, zextk2, xUpper, xInW, xIxW, xLt_ss, xLe_ss, xGt_ss, xSl_t, xSl_l, xSl_s, zlNil, zlCons, zpin_d, zpin_l, zpin_k, zpin_b, zlkL0, zlkL1, zCallL, zimm_d, zimm_l, zimm_k, zimm_i, zimm_s, zimm_b, zimm_n, zimm_t, zimm_0, zimm_1, zSortSet, List.length_cons, List.length_nil, List.nil_append, List.append_nil, List.cons_append, true_and, and_true, reduceIte, if_true, if_false, decide_eq_true_eq, Bool.not_true, Bool.not_false, Bool.not_eq_true, Bool.false_eq_true, Nat.reduceAdd, Nat.zero_add, Bool.not_eq_false, decide_false, decide_true, Bool.not_eq_eq_eq_not, Bool.true_eq, decide_not, Bool.not_not, decide_eq_false_iff_not, eq_self]
  refine ⟨by decide, ?_⟩
  have e : Qs.n [q] = q.n := by simp [Qs.n]
  refine ⟨q.n + 1, stack_loop (q.n + 1) [q] 0 _ (by omega) (by omega) (by omega) (fun p hp => by rw [List.mem_singleton.mp hp]; exact o) fun k x => ?_⟩
  simp only [xEq_ii, xEq_ss, xEq_nn, xEq_bb, xEq_ni, xEq_in, xNe_ii, xNe_ss, xLt_ii, xGt_ii, xLe_ii, xGe_ii, xAdd_ii, xAdd_ss, xAdd_tt, xAdd_ll, xSub_ii, xMul_ii, xDiv_ii, xMod_ii, xPow_ii, xNeg_i, xInt_i, xInt_b, xLen_t, xLen_l, xLen_s, xLen_d, xTuple_l, xTuple_t, xList_l, xList_t, xIx_t, xIx_l, xIx_s, xIx_di, xIx_ds, at0, at1, at2, at3, at4, at5, at6, at7, xIs_nn, xIs_i, xIs_s, xIs_b, xIs_t, xIs_l, xIs_d, xIsB_n, xIsB_i, xIsB_s, xIsB_b, yInt_i, yInt_b, yInt_n, yInt_s, yInt_t, yInt_l, yBool_i, yBool_b, yBool_n, yBool_s, yBool_t, yBool_l, yStr_i, yStr_b, yStr_n, yStr_s, yStr_t, yStr_l, yTup_i, yTup_b, yTup_n, yTup_s, yTup_t, yTup_l, yLst_i, yLst_n, yLst_s, yLst_t, yLst_l, xIn_l, xIn_it, xIn_il, xIn_sd, xLt_pp, xGt_pp, xLe_pp, xGe_pp, xII, z0, z1, z2, zput0, zput1, zC, zV, zv_d, zv_l, zv_k, zOp, zUn, zlk_d, zlk_l, zlk_k, zlk_b, zls_d, zls_l, zls_k, zfz_d, zfz_l, zfz_k, zfz_b, zfr_l, zfr_k, zfr_d, ztB, zbk, ztT, ztr_b, ztr_i, ztr_n, ztr_t, ztr_l, ztr_s, ztAnd, ztOr, ztNot, zeAnd, zeOr, zeNot, zeIf, zaNil, zaCons, zTup, zLst, zCB, zCall, zCallK, zfdn, zDicK, zpNone, zpSome, zpsk, zSl, zChain, zchk, zSeq, zsNil, zBreak, zCont, zIf, zSet, zs_d, zs_l, zs_k, zs_b, zRet, zr_d, zr_l, zr_k, zr_b, zRetN, zDrop, zFor, ziE, zit_t, zit_l, zit_s, zR1, zr1, zR2, zr2, zgN, zAsg, zgT, zgsC, zgsN, zApp, zap0, zap, zLc, zclr, zclr2, zbck, zkeep_d, zkeep_n, zDP, zdp0, zdp, zky_i, zky_s, xSorted, xNe_bb, zPop, zpopk, zExt, zextk, zextk2, xUpper, xInW, xIxW, xLt_ss, xLe_ss, xGt_ss, xSl_t, xSl_l, xSl_s, zlNil, zlCons, zpin_d, zpin_l, zpin_k, zpin_b, zlkL0, zlkL1, zCallL, zimm_d, zimm_l, zimm_k, zimm_i, zimm_s, zimm_b, zimm_n, zimm_t, zimm_0, zimm_1, zSortSet, List.length_cons, List.length_nil, List.nil_append, List.append_nil, List.cons_append, true_and, and_true, reduceIte, if_true, if_false, decide_eq_true_eq, Bool.not_true, Bool.not_false, Bool.not_eq_true, Bool.false_eq_true, Nat.reduceAdd, Nat.zero_add, Bool.not_eq_false, decide_false, decide_true, Bool.not_eq_eq_eq_not, Bool.true_eq, decide_not, Bool.not_not, decide_eq_false_iff_not, eq_self]
  exact h
end
end K04
namespace K04
open PySem PySem.Spec PyProof.Rows L2 DL
section
variable {μ : Mu} {R : Sl → Mu → Prop} {w : DL.D} {Δ : DE}
theorem check_series_ok {ps : List Pr} (o : Ser ps) (h : R (.d .non) μ) : fn_check_series [.tup (ps.map prD)] μ R := by
  show Φ_check_series _ ⟨[.d (.tup (ps.map prD))], μ⟩
  simp only [Φ_check_series, xEq_ii, xEq_ss, xEq_nn, xEq_bb, xEq_ni, xEq_in, xNe_ii, xNe_ss, xLt_ii, xGt_ii, xLe_ii, xGe_ii, xAdd_ii, xAdd_ss, xAdd_tt, xAdd_ll, xSub_ii, xMul_ii, xDiv_ii, xMod_ii, xPow_ii, xNeg_i, xInt_i, xInt_b, xLen_t, xLen_l, xLen_s, xLen_d, xTuple_l, xTuple_t, xList_l, xList_t, xIx_t, xIx_l, xIx_s, xIx_di, xIx_ds, at0, at1, at2, at3, at4, at5, at6, at7, xIs_nn, xIs_i, xIs_s, xIs_b, xIs_t, xIs_l, xIs_d, xIsB_n, xIsB_i, xIsB_s, xIsB_b, yInt_i, yInt_b, yInt_n, yInt_s, yInt_t, yInt_l, yBool_i, yBool_b, yBool_n, yBool_s, yBool_t, yBool_l, yStr_i, yStr_b, yStr_n, yStr_s, yStr_t, yStr_l, yTup_i, yTup_b, yTup_n, yTup_s, yTup_t, yTup_l, yLst_i, yLst_n, yLst_s, yLst_t, yLst_l, xIn_l, xIn_it, xIn_il, xIn_sd, xLt_pp, xGt_pp, xLe_pp, xGe_pp, xII, z0, z1, z2, zput0, zput1, zC, zV, zv_d, zv_l, zv_k, zOp, zUn, zlk_d, zlk_l, zlk_k, zlk_b, zls_d, zls_l, zls_k, zfz_d, zfz_l, zfz_k, zfz_b, zfr_l, zfr_k, zfr_d, ztB, zbk, ztT, ztr_b, ztr_i, ztr_n, ztr_t, ztr_l, ztr_s, ztAnd, ztOr, ztNot, zeAnd, zeOr, zeNot, zeIf, zaNil, zaCons, zTup, zLst, zCB, zCall, zCallK, zfdn, zDicK, zpNone, zpSome, zpsk, zSl, zChain, zchk, zSeq, zsNil, zBreak, zCont, zIf, zSet, zs_d, zs_l, zs_k, zs_b, zRet, zr_d, zr_l, zr_k, zr_b, zRetN, zDrop, zFor, ziE, zit_t, zit_l, zit_s, zR1, zr1, zR2, zr2, zgN, zAsg, zgT, zgsC, zgsN, zApp, zap0, zap, zLc, zclr, zclr2, zbck, zkeep_d, zkeep_n, zDP, zdp0, zdp, zky_i, zky_s, xSorted, xNe_bb, zPop, zpopk, zExt, zextk, zextk2, xUpper, xInW, xIxW, xLt_ss, xLe_ss, xGt_ss, xSl_t, xSl_l, xSl_s, zlNil, zlCons, zpin_d, zpin_l, zpin_k, zpin_b, zlkL0, zlkL1, zCallL, zimm_d, zimm_l, zimm_k, zimm_i, zimm_s, zimm_b, zimm_n, zimm_t, zimm_0, zimm_1, zSortSet, List.length_cons, List.length_nil, List.nil_append, List.append_nil, List.cons_append, true_and, and_true, reduceIte, if_true, if_false, decide_eq_true_eq, Bool.not_true, Bool.not_false, Bool.not_eq_true, Bool.false_eq_true, Nat.reduceAdd, Nat.zero_add, Bool.not_eq_false, decide_false, decide_true, Bool.not_eq_eq_eq_not, Bool.true_eq, decide_not, Bool.not_not, decide_eq_false_iff_not, eq_self]
  refine is_series_ok o ?_
  simp only [xEq_ii, xEq_ss, xEq_nn, xEq_bb, xEq_ni, xEq_in, xNe_ii, xNe_ss, xLt_ii, xGt_ii, xLe_ii, xGe_ii, xAdd_ii, xAdd_ss, xAdd_tt, xAdd_ll, xSub_ii, xMul_ii, xDiv_ii, xMod_ii, xPow_ii, xNeg_i, xInt_i, xInt_b, xLen_t, xLen_l, xLen_s, xLen_d, xTuple_l, xTuple_t, xList_l, xList_t, xIx_t, xIx_l, xIx_s, xIx_di, xIx_ds, at0, at1, at2, at3, at4, at5, at6, at7, xIs_nn, xIs_i, xIs_s, xIs_b, xIs_t, xIs_l, xIs_d, xIsB_n, xIsB_i, xIsB_s, xIsB_b, yInt_i, yInt_b, yInt_n, yInt_s, yInt_t, yInt_l, yBool_i, yBool_b, yBool_n, yBool_s, yBool_t, yBool_l, yStr_i, yStr_b, yStr_n, yStr_s, yStr_t, yStr_l, yTup_i, yTup_b, yTup_n, yTup_s, yTup_t, yTup_l, yLst_i, yLst_n, yLst_s, yLst_t, yLst_l, xIn_l, xIn_it, xIn_il, xIn_sd, xLt_pp, xGt_pp, xLe_pp, xGe_pp, xII, z0, z1, z2, zput0, zput1, zC, zV, zv_d, zv_l, zv_k, zOp, zUn, zlk_d, zlk_l, zlk_k, zlk_b, zls_d, zls_l, zls_k, zfz_d, zfz_l, zfz_k, zfz_b, zfr_l, zfr_k, zfr_d, ztB, zbk, ztT, ztr_b, ztr_i, ztr_n, ztr_t, ztr_l, ztr_s, ztAnd, ztOr, ztNot, zeAnd, zeOr, zeNot, zeIf, zaNil, zaCons, zTup, zLst, zCB, zCall, zCallK, zfdn, zDicK, zpNone, zpSome, zpsk, zSl, zChain, zchk, zSeq, zsNil, zBreak, zCont, zIf, zSet, zs_d, zs_l, zs_k, zs_b, zRet, zr_d, zr_l, zr_k, zr_b, zRetN, zDrop, zFor, ziE, zit_t, zit_l, zit_s, zR1, zr1, zR2, zr2, zgN, zAsg, zgT, zgsC, zgsN, zApp, zap0, zap, zLc, zclr, zclr2, zbck, zkeep_d, zkeep_n, zDP, zdp0, zdp, zky_i, zky_s, xSorted, xNe_bb, zPop, zpopk, zExt, zextk, zextk2, xUpper, xInW, xIxW, xLt_ss, xLe_ss, xGt_ss, xSl_t, xSl_l, xSl_s, zlNil, zlCons, zpin_d, zpin_l, zpin_k, zpin_b, zlkL0, zlkL1, zCallL, zimm_d, zimm_l, zimm_k, zimm_i, zimm_s, zimm_b, zimm_n, zimm_t, zimm_0, zimm_1, zSortSet, List.length_cons, List.length_nil, List.nil_append, List.append_nil, List.cons_append, true_and, and_true, reduceIte, if_true, if_false, decide_eq_true_eq, Bool.not_true, Bool.not_false, Bool.not_eq_true, Bool.false_eq_true, Nat.reduceAdd, Nat.zero_add, Bool.not_eq_false, decide_false, decide_true, Bool.not_eq_eq_eq_not, Bool.true_eq, decide_not, Bool.not_not, decide_eq_false_iff_not, eq_self]
  exact h
theorem check_selector_ok {q : Q} (o : q.Ok) (hn : q.n ≤ 60) (h : R (.d .non) μ) : fn_check_selector [q.D] μ R := by
  show Φ_check_selector _ ⟨[.d q.D], μ⟩
  simp only [Φ_check_selector, xEq_ii, xEq_ss, xEq_nn, xEq_bb, xEq_ni, xEq_in, xNe_ii, xNe_ss, xLt_ii, xGt_ii, xLe_ii, xGe_ii, xAdd_ii, xAdd_ss, xAdd_tt, xAdd_ll, xSub_ii, xMul_ii, xDiv_ii, xMod_ii, xPow_ii, xNeg_i, xInt_i, xInt_b, xLen_t, xLen_l, xLen_s, xLen_d, xTuple_l, xTuple_t, xList_l, xList_t, xIx_t, xIx_l, xIx_s, xIx_di, xIx_ds, at0, at1, at2, at3, at4, at5, at6, at7, xIs_nn, xIs_i, xIs_s, xIs_b, xIs_t, xIs_l, xIs_d, xIsB_n, xIsB_i, xIsB_s, xIsB_b, yInt_i, yInt_b, yInt_n, yInt_s, yInt_t, yInt_l, yBool_i, yBool_b, yBool_n, yBool_s, yBool_t, yBool_l, yStr_i, yStr_b, yStr_n, yStr_s, yStr_t, yStr_l, yTup_i, yTup_b, yTup_n, yTup_s, yTup_t, yTup_l, yLst_i, yLst_n, yLst_s, yLst_t, yLst_l, xIn_l, xIn_it, xIn_il, xIn_sd, xLt_pp, xGt_pp, xLe_pp, xGe_pp, xII, z0, z1, z2, zput0, zput1, zC, zV, zv_d, zv_l, zv_k, zOp, zUn, zlk_d, zlk_l, zlk_k, zlk_b, zls_d, zls_l, zls_k, zfz_d, zfz_l, zfz_k, zfz_b, zfr_l, zfr_k, zfr_d, ztB, zbk, ztT, ztr_b, ztr_i, ztr_n, ztr_t, ztr_l, ztr_s, ztAnd, ztOr, ztNot, zeAnd, zeOr, zeNot, zeIf, zaNil, zaCons, zTup, zLst, zCB, zCall, zCallK, zfdn, zDicK, zpNone, zpSome, zpsk, zSl, zChain, zchk, zSeq, zsNil, zBreak, zCont, zIf, zSet, zs_d, zs_l, zs_k, zs_b, zRet, zr_d, zr_l, zr_k, zr_b, zRetN, zDrop, zFor, ziE, zit_t, zit_l, zit_s, zR1, zr1, zR2, zr2, zgN, zAsg, zgT, zgsC, zgsN, zApp, zap0, zap, zLc, zclr, zclr2, zbck, zkeep_d, zkeep_n, zDP, zdp0, zdp, zky_i, zky_s, xSorted, xNe_bb, zPop, zpopk, zExt, zextk, zextk2, xUpper, xInW, xIxW, xLt_ss, xLe_ss, xGt_ss, xSl_t, xSl_l, xSl_s, zlNil, zlCons, zpin_d, zpin_l, zpin_k, zpin_b, zlkL0, zlkL1, zCallL, zimm_d, zimm_l, zimm_k, zimm_i, zimm_s, zimm_b, zimm_n, zimm_t, zimm_0, zimm_1, zSortSet, List.length_cons, List.length_nil, List.nil_append, List.append_nil, List.cons_append, true_and, and_true, reduceIte, if_true, if_false, decide_eq_true_eq, Bool.not_true, Bool.not_false, Bool.not_eq_true, Bool.false_eq_true, Nat.reduceAdd, Nat.zero_add, Bool.not_eq_false, decide_false, decide_true, Bool.not_eq_eq_eq_not, Bool.true_eq, decide_not, Bool.not_not, decide_eq_false_iff_not, eq_self]
  refine is_selector_ok o hn ?_
  simp only [xEq_ii, xEq_ss, xEq_nn, xEq_bb, xEq_ni, xEq_in, xNe_ii, xNe_ss, xLt_ii, xGt_ii, xLe_ii, xGe_ii, xAdd_ii, xAdd_ss, xAdd_tt, xAdd_ll, xSub_ii, xMul_ii, xDiv_ii, xMod_ii, xPow_ii, xNeg_i, xInt_i, xInt_b, xLen_t, xLen_l, xLen_s, xLen_d, xTuple_l, xTuple_t, xList_l, xList_t, xIx_t, xIx_l, xIx_s, xIx_di, xIx_ds, at0, at1, at2, at3, at4, at5, at6, at7, xIs_nn, xIs_i, xIs_s, xIs_b, xIs_t, xIs_l, xIs_d, xIsB_n, xIsB_i, xIsB_s, xIsB_b, yInt_i, yInt_b, yInt_n, yInt_s, yInt_t, yInt_l, yBool_i, yBool_b, yBool_n, yBool_s, yBool_t, yBool_l, yStr_i, yStr_b, yStr_n, yStr_s, yStr_t, yStr_l, yTup_i, yTup_b, yTup_n, yTup_s, yTup_t, yTup_l, yLst_i, yLst_n, yLst_s, yLst_t, yLst_l, xIn_l, xIn_it, xIn_il, xIn_sd, xLt_pp, xGt_pp, xLe_pp, xGe_pp, xII, z0, z1, z2, zput0, zput1, zC, zV, zv_d, zv_l, zv_k, zOp, zUn, zlk_d, zlk_l, zlk_k, zlk_b, zls_d, zls_l, zls_k, zfz_d, zfz_l, zfz_k, zfz_b, zfr_l, zfr_k, zfr_d, ztB, zbk, ztT, ztr_b, ztr_i, ztr_n, ztr_t, ztr_l, ztr_s, ztAnd, ztOr, ztNot, zeAnd, zeOr, zeNot, zeIf, zaNil, zaCons, zTup, zLst, zCB, zCall, zCallK, zfdn, zDicK, zpNone, zpSome, zpsk, zSl, zChain, zchk, zSeq, zsNil, zBreak, zCont, zIf, zSet, zs_d, zs_l, zs_k, zs_b, zRet, zr_d, zr_l, zr_k, zr_b, zRetN, zDrop, zFor, ziE, zit_t, zit_l, zit_s, zR1, zr1, zR2, zr2, zgN, zAsg, zgT, zgsC, zgsN, zApp, zap0, zap, zLc, zclr, zclr2, zbck, zkeep_d, zkeep_n, zDP, zdp0, zdp, zky_i, zky_s, xSorted, xNe_bb, zPop, zpopk, zExt, zextk, zextk2, xUpper, xInW, xIxW, xLt_ss, xLe_ss, xGt_ss, xSl_t, xSl_l, xSl_s, zlNil, zlCons, zpin_d, zpin_l, zpin_k, zpin_b, zlkL0, zlkL1, zCallL, zimm_d, zimm_l, zimm_k, zimm_i, zimm_s, zimm_b, zimm_n, zimm_t, zimm_0, zimm_1, zSortSet, List.length_cons, List.length_nil, List.nil_append, List.append_nil, List.cons_append, true_and, and_true, reduceIte, if_true, if_false, decide_eq_true_eq, Bool.not_true, Bool.not_false, Bool.not_eq_true, Bool.false_eq_true, Nat.reduceAdd, Nat.zero_add, Bool.not_eq_false, decide_false, decide_true, Bool.not_eq_eq_eq_not, Bool.true_eq, decide_not, Bool.not_not, decide_eq_false_iff_not, eq_self]
  exact h
/-! labels -/
def keysOf (ps : List Pr) : List Key := ps.map fun p => .inr p.1
def valsOf (ps : List Pr) : List DL.D := ps.map fun p => .str p.2
theorem look_of (x : Str) : ∀ ps : List Pr, dlook (keysOf ps) (valsOf ps) (.inr x) = (ps.lookup x).map .str
  | [] => rfl
  | p :: ps => by
    have ih := look_of x ps
    show (if (Sum.inr p.1 : Key) = .inr x then some (.str p.2) else dlook (keysOf ps) (valsOf ps) (.inr x)) = _
    rw [ih, List.lookup_cons]
    by_cases c : p.1 = x
    · subst c
      rw [if_pos rfl, beq_self_eq_true]
      rfl
    · have e : (x == p.1) = false := beq_eq_false_iff_ne.mpr fun z => c z.symm
      rw [if_neg fun z => c (Sum.inr.inj z), e]
theorem labels_loop : ∀ (ps dn : List Pr) (x y : Sl), (∀ p ∈ ps, ∀ q ∈ dn, q.1 ≠ p.1) → (ps.Pairwise fun a b => a.1 ≠ b.1) → dn.length + ps.length < 100 → (∀ x y, Δ.nx ⟨[.d w, .k (keysOf (dn ++ ps)) (valsOf (dn ++ ps)), x, y], μ⟩) →
    forL (gT 2 (gsCons (gN 2) (gsCons (gN 3) gsNil))) B_labels_of_0 Δ (ps.map prD) ⟨[.d w, .k (keysOf dn) (valsOf dn), x, y], μ⟩
  | [], dn, x, y, _, _, _, h => by
    rw [List.append_nil] at h
    exact h x y
  | p :: ps, dn, x, y, h1, h2, h3, h => by
    simp only [List.length_cons] at h3
    have hk : dhas (keysOf dn) (.inr p.1) = false := by
      unfold dhas keysOf
      rw [List.any_map, List.any_eq_false]
      intro q hq
      simp only [Function.comp, decide_eq_true_eq, Sum.inr.injEq]
      exact h1 p (List.mem_cons_self ..) q hq
    have hl : (keysOf dn).length = dn.length := by unfold keysOf; rw [List.length_map]
    have big : 1000 < sizeLine := by decide
    have ih := labels_loop ps (dn ++ [p]) (.d (.str p.1)) (.d (.str p.2)) (fun a ha q hq => ?_) (List.pairwise_cons.mp h2).2 (by simp; omega) (by rw [List.append_assoc]; exact h)
    · simp only [List.map_cons, forL_cons, prD, xEq_ii, xEq_ss, xEq_nn, xEq_bb, xEq_ni, xEq_in, xNe_ii, xNe_ss, xLt_ii, xGt_ii, xLe_ii, xGe_ii, xAdd_ii, xAdd_ss, xAdd_tt, xAdd_ll, xSub_ii, xMul_ii, xDiv_ii, xMod_ii, xPow_ii, xNeg_i, xInt_i, xInt_b, xLen_t, xLen_l, xLen_s, xLen_d, xTuple_l, xTuple_t, xList_l, xList_t, xIx_t, xIx_l, xIx_s, xIx_di, xIx_ds, at0, at1, at2, at3, at4, at5, at6, at7, xIs_nn, xIs_i, xIs_s, xIs_b, xIs_t, xIs_l, xIs_d, xIsB_n, xIsB_i, xIsB_s, xIsB_b, yInt_i, yInt_b, yInt_n, yInt_s, yInt_t, yInt_l, yBool_i, yBool_b, yBool_n, yBool_s, yBool_t, yBool_l, yStr_i, yStr_b, yStr_n, yStr_s, yStr_t, yStr_l, yTup_i, yTup_b, yTup_n, yTup_s, yTup_t, yTup_l, yLst_i, yLst_n, yLst_s, yLst_t, yLst_l, xIn_l, xIn_it, xIn_il, xIn_sd, xLt_pp, xGt_pp, xLe_pp, xGe_pp, xII, z0, z1, z2, zput0, zput1, zC, zV, zv_d, zv_l, zv_k, zOp, zUn, zlk_d, zlk_l, zlk_k, zlk_b, zls_d, zls_l, zls_k, zfz_d, zfz_l, zfz_k, zfz_b, zfr_l, zfr_k, zfr_d, ztB, zbk, ztT, ztr_b, ztr_i, ztr_n, ztr_t, ztr_l, ztr_s, ztAnd, ztOr, ztNot, zeAnd, zeOr, zeNot, zeIf, zaNil, zaCons, zTup, zLst, zCB, zCall, zCallK, zfdn, zDicK, zpNone, zpSome, zpsk, zSl, zChain, zchk, zSeq, zsNil, zBreak, zCont, zIf, zSet, zs_d, zs_l, zs_k, zs_b, zRet, zr_d, zr_l, zr_k, zr_b, zRetN, zDrop, zFor, ziE, zit_t, zit_l, zit_s, zR1, zr1, zR2, zr2, zgN, zAsg, zgT, zgsC, zgsN, zApp, zap0, zap, zLc, zclr, zclr2, zbck, zkeep_d, zkeep_n, zDP, zdp0, zdp, zky_i, zky_s, xSorted, xNe_bb, zPop, zpopk, zExt, zextk, zextk2, xUpper, xInW, xIxW, xLt_ss, xLe_ss, xGt_ss, xSl_t, xSl_l, xSl_s, zlNil, zlCons, zpin_d, zpin_l, zpin_k, zpin_b, zlkL0, zlkL1, zCallL, zimm_d, zimm_l, zimm_k, zimm_i, zimm_s, zimm_b, zimm_n, zimm_t, zimm_0, zimm_1, zSortSet, List.length_cons, List.length_nil, List.nil_append, List.append_nil, List.cons_append, true_and, and_true, reduceIte, if_true, if_false, decide_eq_true_eq, Bool.not_true, Bool.not_false, Bool.not_eq_true, Bool.false_eq_true, Nat.reduceAdd, Nat.zero_add, Bool.not_eq_false, decide_false, decide_true, Bool.not_eq_eq_eq_not, Bool.true_eq, decide_not, Bool.not_not, decide_eq_false_iff_not, eq_self, B_labels_of_0_eq, hk, hl]
      refine ⟨by omega, ?_⟩
      have e1 : keysOf (dn ++ [p]) = keysOf dn ++ [.inr p.1] := by simp [keysOf]
      have e2 : valsOf (dn ++ [p]) = valsOf dn ++ [.str p.2] := by simp [valsOf]
      rw [e1, e2] at ih
      exact ih
    · rcases List.mem_append.mp hq with hq | hq
      · exact h1 a (List.mem_cons_of_mem _ ha) q hq
      · rw [List.mem_singleton.mp hq]
        exact (List.pairwise_cons.mp h2).1 a ha
theorem slt_ne {x y : Str} (h : slt x y = true) : x ≠ y := fun z => by
  subst z
  have := slt_asym h
  rw [this] at h
  cases h
theorem labels_ok {ps : List Pr} (o : Ser ps) (h : R (.k (keysOf ps) (valsOf ps)) μ) : fn_labels_of [.tup (ps.map prD)] μ R := by
  show Φ_labels_of _ ⟨[.d (.tup (ps.map prD)), .no, .no, .no], μ⟩
  simp only [Φ_labels_of, xEq_ii, xEq_ss, xEq_nn, xEq_bb, xEq_ni, xEq_in, xNe_ii, xNe_ss, xLt_ii, xGt_ii, xLe_ii, xGe_ii, xAdd_ii, xAdd_ss, xAdd_tt, xAdd_ll, xSub_ii, xMul_ii, xDiv_ii, xMod_ii, xPow_ii, xNeg_i, xInt_i, xInt_b, xLen_t, xLen_l, xLen_s, xLen_d, xTuple_l, xTuple_t, xList_l, xList_t, xIx_t, xIx_l, xIx_s, xIx_di, xIx_ds, at0, at1, at2, at3, at4, at5, at6, at7, xIs_nn, xIs_i, xIs_s, xIs_b, xIs_t, xIs_l, xIs_d, xIsB_n, xIsB_i, xIsB_s, xIsB_b, yInt_i, yInt_b, yInt_n, yInt_s, yInt_t, yInt_l, yBool_i, yBool_b, yBool_n, yBool_s, yBool_t, yBool_l, yStr_i, yStr_b, yStr_n, yStr_s, yStr_t, yStr_l, yTup_i, yTup_b, yTup_n, yTup_s, yTup_t, yTup_l, yLst_i, yLst_n, yLst_s, yLst_t, yLst_l, xIn_l, xIn_it, xIn_il, xIn_sd, xLt_pp, xGt_pp, xLe_pp, xGe_pp, xII, z0, z1, z2, zput0, zput1, zC, zV, zv_d, zv_l, zv_k, zOp, zUn, zlk_d, zlk_l, zlk_k, zlk_b, zls_d, zls_l, zls_k, zfz_d, zfz_l, zfz_k, zfz_b, zfr_l, zfr_k, zfr_d, ztB, zbk, ztT, ztr_b, ztr_i, ztr_n, ztr_t, ztr_l, ztr_s, ztAnd, ztOr, ztNot, zeAnd, zeOr, zeNot, zeIf, zaNil, zaCons, zTup, zLst, zCB, zCall, zCallK, zfdn, zDicK, zpNone, zpSome, zpsk, zSl, zChain, zchk, zSeq, zsNil, zBreak, zCont, zIf, zSet, zs_d, zs_l, zs_k, zs_b, zRet, zr_d, zr_l, zr_k, zr_b, zRetN, zDrop, zFor, ziE, zit_t, zit_l, zit_s, zR1, zr1, zR2, zr2, zgN, zAsg, zgT, zgsC, zgsN, zApp, zap0, zap, zLc, zclr, zclr2, zbck, zkeep_d, zkeep_n, zDP, zdp0, zdp, zky_i, zky_s, xSorted, xNe_bb, zPop, zpopk, zExt, zextk, zextk2, xUpper, xInW, xIxW, xLt_ss, xLe_ss, xGt_ss, xSl_t, xSl_l, xSl_s, zlNil, zlCons, zpin_d, zpin_l, zpin_k, zpin_b, zlkL0, zlkL1, zCallL, zimm_d, zimm_l, zimm_k, zimm_i, zimm_s, zimm_b, zimm_n, zimm_t, zimm_0, zimm_1, zSortSet, List.length_cons, List.length_nil, List.nil_append, List.append_nil, List.cons_append, true_and, and_true, reduceIte, if_true, if_false, decide_eq_true_eq, Bool.not_true, Bool.not_false, Bool.not_eq_true, Bool.false_eq_true, Nat.reduceAdd, Nat.zero_add, Bool.not_eq_false, decide_false, decide_true, Bool.not_eq_eq_eq_not, Bool.true_eq, decide_not, Bool.not_not, decide_eq_false_iff_not, eq_self]
  refine labels_loop ps [] _ _ (fun _ _ _ z => nomatch z) (o.asc.imp slt_ne) (by simpa using o.few) fun x y => ?_
  simp only [xEq_ii, xEq_ss, xEq_nn, xEq_bb, xEq_ni, xEq_in, xNe_ii, xNe_ss, xLt_ii, xGt_ii, xLe_ii, xGe_ii, xAdd_ii, xAdd_ss, xAdd_tt, xAdd_ll, xSub_ii, xMul_ii, xDiv_ii, xMod_ii, xPow_ii, xNeg_i, xInt_i, xInt_b, xLen_t, xLen_l, xLen_s, xLen_d, xTuple_l, xTuple_t, xList_l, xList_t, xIx_t, xIx_l, xIx_s, xIx_di, xIx_ds, at0, at1, at2, at3, at4, at5, at6, at7, xIs_nn, xIs_i, xIs_s, xIs_b, xIs_t, xIs_l, xIs_d, xIsB_n, xIsB_i, xIsB_s, xIsB_b, yInt_i, yInt_b, yInt_n, yInt_s, yInt_t, yInt_l, yBool_i, yBool_b, yBool_n, yBool_s, yBool_t, yBool_l, yStr_i, yStr_b, yStr_n, yStr_s, yStr_t, yStr_l, yTup_i, yTup_b, yTup_n, yTup_s, yTup_t, yTup_l, yLst_i, yLst_n, yLst_s, yLst_t, yLst_l, xIn_l, xIn_it, xIn_il, xIn_sd, xLt_pp, xGt_pp, xLe_pp, xGe_pp, xII, z0, z1, z2, zput0, zput1, zC, zV, zv_d, zv_l, zv_k, zOp, zUn, zlk_d, zlk_l, zlk_k, zlk_b, zls_d, zls_l, zls_k, zfz_d, zfz_l, zfz_k, zfz_b, zfr_l, zfr_k, zfr_d, ztB, zbk, ztT, ztr_b, ztr_i, ztr_n, ztr_t, ztr_l, ztr_s, ztAnd, ztOr, ztNot, zeAnd, zeOr, zeNot, zeIf, zaNil, zaCons, zTup, zLst, zCB, zCall, zCallK, zfdn, zDicK, zpNone, zpSome, zpsk, zSl, zChain, zchk, zSeq, zsNil, zBreak, zCont, zIf, zSet, zs_d, zs_l, zs_k, zs_b, zRet, zr_d, zr_l, zr_k, zr_b, zRetN, zDrop, zFor, ziE, zit_t, zit_l, zit_s, zR1, zr1, zR2, zr2, zgN, zAsg, zgT, zgsC, zgsN, zApp, zap0, zap, zLc, zclr, zclr2, zbck, zkeep_d, zkeep_n, zDP, zdp0, zdp, zky_i, zky_s, xSorted, xNe_bb, zPop, zpopk, zExt, zextk, zextk2, xUpper, xInW, xIxW, xLt_ss, xLe_ss, xGt_ss, xSl_t, xSl_l, xSl_s, zlNil, zlCons, zpin_d, zpin_l, zpin_k, zpin_b, zlkL0, zlkL1, zCallL, zimm_d, zimm_l, zimm_k, zimm_i, zimm_s, zimm_b, zimm_n, zimm_t, zimm_0, zimm_1, zSortSet, List.length_cons, List.length_nil, List.nil_append, List.append_nil, List.cons_append, true_and, and_true, reduceIte, if_true, if_false, decide_eq_true_eq, Bool.not_true, Bool.not_false, Bool.not_eq_true, Bool.false_eq_true, Nat.reduceAdd, Nat.zero_add, Bool.not_eq_false, decide_false, decide_true, Bool.not_eq_eq_eq_not, Bool.true_eq, decide_not, Bool.not_not, decide_eq_false_iff_not, eq_self, List.nil_append]
  exact h
/-! what a selector tells -/
def Q.ev (ps : List Pr) : Q → Bool
  | .any => true
  | .has x => (ps.lookup x).isSome
  | .is x vs => match ps.lookup x with
    | some v => vs.any (· == v)
    | none => false
  | .no q => !q.ev ps
  | .bo a p q => if a then p.ev ps && q.ev ps else p.ev ps || q.ev ps
theorem oks_strs : ∀ vs : List Str, D.oks (vs.map D.str) = true
  | [] => rfl
  | v :: vs => by
    show (true && D.oks (vs.map D.str)) = true
    rw [oks_strs vs]
    rfl
theorem deps_strs : ∀ vs : List Str, D.deps (vs.map D.str) = 0
  | [] => rfl
  | v :: vs => by
    show max 0 (D.deps (vs.map D.str)) = 0
    rw [deps_strs vs]
    rfl
theorem cin_strs {x : Str} {vs : List Str} : cIn (.str x) (vs.map D.str) = True := eq_true ⟨⟨rfl, oks_strs vs⟩, by rw [deps_strs]; show min 0 0 ≤ 50; decide⟩
theorem any_strs (x : Str) : ∀ vs : List Str, ((vs.map D.str).any fun z => D.eq z (.str x)) = vs.any (· == x)
  | [] => rfl
  | v :: vs => by
    rw [List.map_cons, List.any_cons, List.any_cons, any_strs x vs]
    rfl
theorem xIn_strs {x : Str} {vs : List Str} {f : Bool → Bool} {R : Sl → Prop} : oIn f (.str x) (.tup (vs.map D.str)) R = R (.d (.bl (f (vs.any (· == x))))) := by
  rw [xIn_t, cin_strs, any_strs, true_and]
theorem xIn_strsL {x : Str} {vs : List Str} {f : Bool → Bool} {R : Sl → Prop} : oIn f (.str x) (.lst (vs.map D.str)) R = R (.d (.bl (f (vs.any (· == x))))) := by
  rw [xIn_l, cin_strs, any_strs, true_and]
theorem holds_ok {ps : List Pr} : ∀ (n : Nat) (q : Q), q.n < n → ∀ {R : Sl → Mu → Prop}, R (.d (.bl (q.ev ps))) μ → fn_holds n [.dic (keysOf ps) (valsOf ps), q.D] μ R
  | 0, q, hn, R, h => by omega
  | n + 1, .any, hn, R, h => by
    show Φ_holds (fn_holds n) _ ⟨[.d (.dic (keysOf ps) (valsOf ps)), .d Q.any.D, .no], μ⟩
    simp only [Φ_holds, Q.D, xEq_ii, xEq_ss, xEq_nn, xEq_bb, xEq_ni, xEq_in, xNe_ii, xNe_ss, xLt_ii, xGt_ii, xLe_ii, xGe_ii, xAdd_ii, xAdd_ss, xAdd_tt, xAdd_ll, xSub_ii, xMul_ii, xDiv_ii, xMod_ii, xPow_ii, xNeg_i, xInt_i, xInt_b, xLen_t, xLen_l, xLen_s, xLen_d, xTuple_l, xTuple_t, xList_l, xList_t, xIx_t, xIx_l, xIx_s, xIx_di, xIx_ds, at0, at1, at2, at3, at4, at5, at6, at7, xIs_nn, xIs_i, xIs_s, xIs_b, xIs_t, xIs_l, xIs_d, xIsB_n, xIsB_i, xIsB_s, xIsB_b, yInt_i, yInt_b, yInt_n, yInt_s, yInt_t, yInt_l, yBool_i, yBool_b, yBool_n, yBool_s, yBool_t, yBool_l, yStr_i, yStr_b, yStr_n, yStr_s, yStr_t, yStr_l, yTup_i, yTup_b, yTup_n, yTup_s, yTup_t, yTup_l, yLst_i, yLst_n, yLst_s, yLst_t, yLst_l, xIn_l, xIn_it, xIn_il, xIn_sd, xLt_pp, xGt_pp, xLe_pp, xGe_pp, xII, z0, z1, z2, zput0, zput1, zC, zV, zv_d, zv_l, zv_k, zOp, zUn, zlk_d, zlk_l, zlk_k, zlk_b, zls_d, zls_l, zls_k, zfz_d, zfz_l, zfz_k, zfz_b, zfr_l, zfr_k, zfr_d, ztB, zbk, ztT, ztr_b, ztr_i, ztr_n, ztr_t, ztr_l, ztr_s, ztAnd, ztOr, ztNot, zeAnd, zeOr, zeNot, zeIf, zaNil, zaCons, zTup, zLst, zCB, zCall, zCallK, zfdn, zDicK, zpNone, zpSome, zpsk, zSl, zChain, zchk, zSeq, zsNil, zBreak, zCont, zIf, zSet, zs_d, zs_l, zs_k, zs_b, zRet, zr_d, zr_l, zr_k, zr_b, zRetN, zDrop, zFor, ziE, zit_t, zit_l, zit_s, zR1, zr1, zR2, zr2, zgN, zAsg, zgT, zgsC, zgsN, zApp, zap0, zap, zLc, zclr, zclr2, zbck, zkeep_d, zkeep_n, zDP, zdp0, zdp, zky_i, zky_s, xSorted, xNe_bb, zPop, zpopk, zExt, zextk, zextk2, xUpper, xInW, xIxW, xLt_ss, xLe_ss, xGt_ss, xSl_t, xSl_l, xSl_s, zlNil, zlCons, zpin_d, zpin_l, zpin_k, zpin_b, zlkL0, zlkL1, zCallL, zimm_d, zimm_l, zimm_k, zimm_i, zimm_s, zimm_b, zimm_n, zimm_t, zimm_0, zimm_1, zSortSet, List.length_cons, List.length_nil, List.nil_append, List.append_nil, List.cons_append, true_and, and_true, reduceIte, if_true, if_false, decide_eq_true_eq, Bool.not_true, Bool.not_false, Bool.not_eq_true, Bool.false_eq_true, Nat.reduceAdd, Nat.zero_add, Bool.not_eq_false, decide_false, decide_true, Bool.not_eq_eq_eq_not, Bool.true_eq, decide_not, Bool.not_not, decide_eq_false_iff_not, eq_self, ne_any_is, ne_any_has, ne_any_not, ne_any_and, ne_any_or, ne_is_any, ne_is_has, ne_is_not, ne_is_and, ne_is_or, ne_has_any, ne_has_is, ne_has_not, ne_has_and, ne_has_or, ne_not_any, ne_not_is, ne_not_has, ne_not_and, ne_not_or, ne_and_any, ne_and_is, ne_and_has, ne_and_not, ne_and_or, ne_or_any, ne_or_is, ne_or_has, ne_or_not, ne_or_and]
    exact h
  | n + 1, .has x, hn, R, h => by
    show Φ_holds (fn_holds n) _ ⟨[.d (.dic (keysOf ps) (valsOf ps)), .d (Q.has x).D, .no], μ⟩
    simp only [Φ_holds, Q.D, xEq_ii, xEq_ss, xEq_nn, xEq_bb, xEq_ni, xEq_in, xNe_ii, xNe_ss, xLt_ii, xGt_ii, xLe_ii, xGe_ii, xAdd_ii, xAdd_ss, xAdd_tt, xAdd_ll, xSub_ii, xMul_ii, xDiv_ii, xMod_ii, xPow_ii, xNeg_i, xInt_i, xInt_b, xLen_t, xLen_l, xLen_s, xLen_d, xTuple_l, xTuple_t, xList_l, xList_t, xIx_t, xIx_l, xIx_s, xIx_di, xIx_ds, at0, at1, at2, at3, at4, at5, at6, at7, xIs_nn, xIs_i, xIs_s, xIs_b, xIs_t, xIs_l, xIs_d, xIsB_n, xIsB_i, xIsB_s, xIsB_b, yInt_i, yInt_b, yInt_n, yInt_s, yInt_t, yInt_l, yBool_i, yBool_b, yBool_n, yBool_s, yBool_t, yBool_l, yStr_i, yStr_b, yStr_n, yStr_s, yStr_t, yStr_l, yTup_i, yTup_b, yTup_n, yTup_s, yTup_t, yTup_l, yLst_i, yLst_n, yLst_s, yLst_t, yLst_l, xIn_l, xIn_it, xIn_il, xIn_sd, xLt_pp, xGt_pp, xLe_pp, xGe_pp, xII, z0, z1, z2, zput0, zput1, zC, zV, zv_d, zv_l, zv_k, zOp, zUn, zlk_d, zlk_l, zlk_k, zlk_b, zls_d, zls_l, zls_k, zfz_d, zfz_l, zfz_k, zfz_b, zfr_l, zfr_k, zfr_d, ztB, zbk, ztT, ztr_b, ztr_i, ztr_n, ztr_t, ztr_l, ztr_s, ztAnd, ztOr, ztNot, zeAnd, zeOr, zeNot, zeIf, zaNil, zaCons, zTup, zLst, zCB, zCall, zCallK, zfdn, zDicK, zpNone, zpSome, zpsk, zSl, zChain, zchk, zSeq, zsNil, zBreak, zCont, zIf, zSet, zs_d, zs_l, zs_k, zs_b, zRet, zr_d, zr_l, zr_k, zr_b, zRetN, zDrop, zFor, ziE, zit_t, zit_l, zit_s, zR1, zr1, zR2, zr2, zgN, zAsg, zgT, zgsC, zgsN, zApp, zap0, zap, zLc, zclr, zclr2, zbck, zkeep_d, zkeep_n, zDP, zdp0, zdp, zky_i, zky_s, xSorted, xNe_bb, zPop, zpopk, zExt, zextk, zextk2, xUpper, xInW, xIxW, xLt_ss, xLe_ss, xGt_ss, xSl_t, xSl_l, xSl_s, zlNil, zlCons, zpin_d, zpin_l, zpin_k, zpin_b, zlkL0, zlkL1, zCallL, zimm_d, zimm_l, zimm_k, zimm_i, zimm_s, zimm_b, zimm_n, zimm_t, zimm_0, zimm_1, zSortSet, List.length_cons, List.length_nil, List.nil_append, List.append_nil, List.cons_append, true_and, and_true, reduceIte, if_true, if_false, decide_eq_true_eq, Bool.not_true, Bool.not_false, Bool.not_eq_true, Bool.false_eq_true, Nat.reduceAdd, Nat.zero_add, Bool.not_eq_false, decide_false, decide_true, Bool.not_eq_eq_eq_not, Bool.true_eq, decide_not, Bool.not_not, decide_eq_false_iff_not, eq_self, ne_any_is, ne_any_has, ne_any_not, ne_any_and, ne_any_or, ne_is_any, ne_is_has, ne_is_not, ne_is_and, ne_is_or, ne_has_any, ne_has_is, ne_has_not, ne_has_and, ne_has_or, ne_not_any, ne_not_is, ne_not_has, ne_not_and, ne_not_or, ne_and_any, ne_and_is, ne_and_has, ne_and_not, ne_and_or, ne_or_any, ne_or_is, ne_or_has, ne_or_not, ne_or_and, look_of, Option.isSome_map]
    exact h
  | n + 1, .is x vs, hn, R, h => by
    show Φ_holds (fn_holds n) _ ⟨[.d (.dic (keysOf ps) (valsOf ps)), .d (Q.is x vs).D, .no], μ⟩
    simp only [Φ_holds, Q.D, xEq_ii, xEq_ss, xEq_nn, xEq_bb, xEq_ni, xEq_in, xNe_ii, xNe_ss, xLt_ii, xGt_ii, xLe_ii, xGe_ii, xAdd_ii, xAdd_ss, xAdd_tt, xAdd_ll, xSub_ii, xMul_ii, xDiv_ii, xMod_ii, xPow_ii, xNeg_i, xInt_i, xInt_b, xLen_t, xLen_l, xLen_s, xLen_d, xTuple_l, xTuple_t, xList_l, xList_t, xIx_t, xIx_l, xIx_s, xIx_di, xIx_ds, at0, at1, at2, at3, at4, at5, at6, at7, xIs_nn, xIs_i, xIs_s, xIs_b, xIs_t, xIs_l, xIs_d, xIsB_n, xIsB_i, xIsB_s, xIsB_b, yInt_i, yInt_b, yInt_n, yInt_s, yInt_t, yInt_l, yBool_i, yBool_b, yBool_n, yBool_s, yBool_t, yBool_l, yStr_i, yStr_b, yStr_n, yStr_s, yStr_t, yStr_l, yTup_i, yTup_b, yTup_n, yTup_s, yTup_t, yTup_l, yLst_i, yLst_n, yLst_s, yLst_t, yLst_l, xIn_l, xIn_it, xIn_il, xIn_sd, xLt_pp, xGt_pp, xLe_pp, xGe_pp, xII, z0, z1, z2, zput0, zput1, zC, zV, zv_d, zv_l, zv_k, zOp, zUn, zlk_d, zlk_l, zlk_k, zlk_b, zls_d, zls_l, zls_k, zfz_d, zfz_l, zfz_k, zfz_b, zfr_l, zfr_k, zfr_d, ztB, zbk, ztT, ztr_b, ztr_i, ztr_n, ztr_t, ztr_l, ztr_s, ztAnd, ztOr, ztNot, zeAnd, zeOr, zeNot, zeIf, zaNil, zaCons, zTup, zLst, zCB, zCall, zCallK, zfdn, zDicK, zpNone, zpSome, zpsk, zSl, zChain, zchk, zSeq, zsNil, zBreak, zCont, zIf, zSet, zs_d, zs_l, zs_k, zs_b, zRet, zr_d, zr_l, zr_k, zr_b, zRetN, zDrop, zFor, ziE, zit_t, zit_l, zit_s, zR1, zr1, zR2, zr2, zgN, zAsg, zgT, zgsC, zgsN, zApp, zap0, zap, zLc, zclr, zclr2, zbck, zkeep_d, zkeep_n, zDP, zdp0, zdp, zky_i, zky_s, xSorted, xNe_bb, zPop, zpopk, zExt, zextk, zextk2, xUpper, xInW, xIxW, xLt_ss, xLe_ss, xGt_ss, xSl_t, xSl_l, xSl_s, zlNil, zlCons, zpin_d, zpin_l, zpin_k, zpin_b, zlkL0, zlkL1, zCallL, zimm_d, zimm_l, zimm_k, zimm_i, zimm_s, zimm_b, zimm_n, zimm_t, zimm_0, zimm_1, zSortSet, List.length_cons, List.length_nil, List.nil_append, List.append_nil, List.cons_append, true_and, and_true, reduceIte, if_true, if_false, decide_eq_true_eq, Bool.not_true, Bool.not_false, Bool.not_eq_true, Bool.false_eq_true, Nat.reduceAdd, Nat.zero_add, Bool.not_eq_false, decide_false, decide_true, Bool.not_eq_eq_eq_not, Bool.true_eq, decide_not, Bool.not_not, decide_eq_false_iff_not, eq_self, ne_any_is, ne_any_has, ne_any_not, ne_any_and, ne_any_or, ne_is_any, ne_is_has, ne_is_not, ne_is_and, ne_is_or, ne_has_any, ne_has_is, ne_has_not, ne_has_and, ne_has_or, ne_not_any, ne_not_is, ne_not_has, ne_not_and, ne_not_or, ne_and_any, ne_and_is, ne_and_has, ne_and_not, ne_and_or, ne_or_any, ne_or_is, ne_or_has, ne_or_not, ne_or_and, look_of, Option.isSome_map]
    unfold Q.ev at h
    cases e : ps.lookup x with
    | none => rw [e] at h; simp only [Option.isSome_none, xEq_ii, xEq_ss, xEq_nn, xEq_bb, xEq_ni, xEq_in, xNe_ii, xNe_ss, xLt_ii, xGt_ii, xLe_ii, xGe_ii, xAdd_ii, xAdd_ss, xAdd_tt, xAdd_ll, xSub_ii, xMul_ii, xDiv_ii, xMod_ii, xPow_ii, xNeg_i, xInt_i, xInt_b, xLen_t, xLen_l, xLen_s, xLen_d, xTuple_l, xTuple_t, xList_l, xList_t, xIx_t, xIx_l, xIx_s, xIx_di, xIx_ds, at0, at1, at2, at3, at4, at5, at6, at7, xIs_nn, xIs_i, xIs_s, xIs_b, xIs_t, xIs_l, xIs_d, xIsB_n, xIsB_i, xIsB_s, xIsB_b, yInt_i, yInt_b, yInt_n, yInt_s, yInt_t, yInt_l, yBool_i, yBool_b, yBool_n, yBool_s, yBool_t, yBool_l, yStr_i, yStr_b, yStr_n, yStr_s, yStr_t, yStr_l, yTup_i, yTup_b, yTup_n, yTup_s, yTup_t, yTup_l, yLst_i, yLst_n, yLst_s, yLst_t, yLst_l, xIn_l, xIn_it, xIn_il, xIn_sd, xLt_pp, xGt_pp, xLe_pp, xGe_pp, xII, z0, z1, z2, zput0, zput1, zC, zV, zv_d, zv_l, zv_k, zOp, zUn, zlk_d, zlk_l, zlk_k, zlk_b, zls_d, zls_l, zls_k, zfz_d, zfz_l, zfz_k, zfz_b, zfr_l, zfr_k, zfr_d, ztB, zbk, ztT, ztr_b, ztr_i, ztr_n, ztr_t, ztr_l, ztr_s, ztAnd, ztOr, ztNot, zeAnd, zeOr, zeNot, zeIf, zaNil, zaCons, zTup, zLst, zCB, zCall, zCallK, zfdn, zDicK, zpNone, zpSome, zpsk, zSl, zChain, zchk, zSeq, zsNil, zBreak, zCont, zIf, zSet, zs_d, zs_l, zs_k, zs_b, zRet, zr_d, zr_l, zr_k, zr_b, zRetN, zDrop, zFor, ziE, zit_t, zit_l, zit_s, zR1, zr1, zR2, zr2, zgN, zAsg, zgT, zgsC, zgsN, zApp, zap0, zap, zLc, zclr, zclr2, zbck, zkeep_d, zkeep_n, zDP, zdp0, zdp, zky_i, zky_s, xSorted, xNe_bb, zPop, zpopk, zExt, zextk, zextk2, xUpper, xInW, xIxW, xLt_ss, xLe_ss, xGt_ss, xSl_t, xSl_l, xSl_s, zlNil, zlCons, zpin_d, zpin_l, zpin_k, zpin_b, zlkL0, zlkL1, zCallL, zimm_d, zimm_l, zimm_k, zimm_i, zimm_s, zimm_b, zimm_n, zimm_t, zimm_0, zimm_1, zSortSet, List.length_cons, List.length_nil, List.nil_append, List.append_nil, List.cons_append, true_and, and_true, reduceIte, if_true, if_false, decide_eq_true_eq, Bool.not_true, Bool.not_false, Bool.not_eq_true, Bool.false_eq_true, Nat.reduceAdd, Nat.zero_add, Bool.not_eq_false, decide_false, decide_true, Bool.not_eq_eq_eq_not, Bool.true_eq, decide_not, Bool.not_not, decide_eq_false_iff_not, eq_self]; exact h
    | some v => rw [e] at h; simp only [Option.isSome_some, Option.map_some, xEq_ii, xEq_ss, xEq_nn, xEq_bb, xEq_ni, xEq_in, xNe_ii, xNe_ss, xLt_ii, xGt_ii, xLe_ii, xGe_ii, xAdd_ii, xAdd_ss, xAdd_tt, xAdd_ll, xSub_ii, xMul_ii, xDiv_ii, xMod_ii, xPow_ii, xNeg_i, xInt_i, xInt_b, xLen_t, xLen_l, xLen_s, xLen_d, xTuple_l, xTuple_t, xList_l, xList_t, xIx_t, xIx_l, xIx_s, xIx_di, xIx_ds, at0, at1, at2, at3, at4, at5, at6, at7, xIs_nn, xIs_i, xIs_s, xIs_b, xIs_t, xIs_l, xIs_d, xIsB_n, xIsB_i, xIsB_s, xIsB_b, yInt_i, yInt_b, yInt_n, yInt_s, yInt_t, yInt_l, yBool_i, yBool_b, yBool_n, yBool_s, yBool_t, yBool_l, yStr_i, yStr_b, yStr_n, yStr_s, yStr_t, yStr_l, yTup_i, yTup_b, yTup_n, yTup_s, yTup_t, yTup_l, yLst_i, yLst_n, yLst_s, yLst_t, yLst_l, xIn_l, xIn_it, xIn_il, xIn_sd, xLt_pp, xGt_pp, xLe_pp, xGe_pp, xII, z0, z1, z2, zput0, zput1, zC, zV, zv_d, zv_l, zv_k, zOp, zUn, zlk_d, zlk_l, zlk_k, zlk_b, zls_d, zls_l, zls_k, zfz_d, zfz_l, zfz_k, zfz_b, zfr_l, zfr_k, zfr_d, ztB, zbk, ztT, ztr_b, ztr_i, ztr_n, ztr_t, ztr_l, ztr_s, ztAnd, ztOr, ztNot, zeAnd, zeOr, zeNot, zeIf, zaNil, zaCons, zTup, zLst, zCB, zCall, zCallK, zfdn, zDicK, zpNone, zpSome, zpsk, zSl, zChain, zchk, zSeq, zsNil, zBreak, zCont, zIf, zSet, zs_d, zs_l, zs_k, zs_b, zRet, zr_d, zr_l, zr_k, zr_b, zRetN, zDrop, zFor, ziE, zit_t, zit_l, zit_s, zR1, zr1, zR2, zr2, zgN, zAsg, zgT, zgsC, zgsN, zApp, zap0, zap, zLc, zclr, zclr2, zbck, zkeep_d, zkeep_n, zDP, zdp0, zdp, zky_i, zky_s, xSorted, xNe_bb, zPop, zpopk, zExt, zextk, zextk2, xUpper, xInW, xIxW, xLt_ss, xLe_ss, xGt_ss, xSl_t, xSl_l, xSl_s, zlNil, zlCons, zpin_d, zpin_l, zpin_k, zpin_b, zlkL0, zlkL1, zCallL, zimm_d, zimm_l, zimm_k, zimm_i, zimm_s, zimm_b, zimm_n, zimm_t, zimm_0, zimm_1, zSortSet, List.length_cons, List.length_nil, List.nil_append, List.append_nil, List.cons_append, true_and, and_true, reduceIte, if_true, if_false, decide_eq_true_eq, Bool.not_true, Bool.not_false, Bool.not_eq_true, Bool.false_eq_true, Nat.reduceAdd, Nat.zero_add, Bool.not_eq_false, decide_false, decide_true, Bool.not_eq_eq_eq_not, Bool.true_eq, decide_not, Bool.not_not, decide_eq_false_iff_not, eq_self, xIn_strs]; exact h
  | n + 1, .no q, hn, R, h => by
    have ih := fun R h => holds_ok (ps := ps) n q (by simp only [Q.n] at hn; omega) (R := R) h
    show Φ_holds (fn_holds n) _ ⟨[.d (.dic (keysOf ps) (valsOf ps)), .d (Q.no q).D, .no], μ⟩
    simp only [Φ_holds, Q.D, xEq_ii, xEq_ss, xEq_nn, xEq_bb, xEq_ni, xEq_in, xNe_ii, xNe_ss, xLt_ii, xGt_ii, xLe_ii, xGe_ii, xAdd_ii, xAdd_ss, xAdd_tt, xAdd_ll, xSub_ii, xMul_ii, xDiv_ii, xMod_ii, xPow_ii, xNeg_i, xInt_i, xInt_b, xLen_t, xLen_l, xLen_s, xLen_d, xTuple_l, xTuple_t, xList_l, xList_t, xIx_t, xIx_l, xIx_s, xIx_di, xIx_ds, at0, at1, at2, at3, at4, at5, at6, at7, xIs_nn, xIs_i, xIs_s, xIs_b, xIs_t, xIs_l, xIs_d, xIsB_n, xIsB_i, xIsB_s, xIsB_b, yInt_i, yInt_b, yInt_n, yInt_s, yInt_t, yInt_l, yBool_i, yBool_b, yBool_n, yBool_s, yBool_t, yBool_l, yStr_i, yStr_b, yStr_n, yStr_s, yStr_t, yStr_l, yTup_i, yTup_b, yTup_n, yTup_s, yTup_t, yTup_l, yLst_i, yLst_n, yLst_s, yLst_t, yLst_l, xIn_l, xIn_it, xIn_il, xIn_sd, xLt_pp, xGt_pp, xLe_pp, xGe_pp, xII, z0, z1, z2, zput0, zput1, zC, zV, zv_d, zv_l, zv_k, zOp, zUn, zlk_d, zlk_l, zlk_k, zlk_b, zls_d, zls_l, zls_k, zfz_d, zfz_l, zfz_k, zfz_b, zfr_l, zfr_k, zfr_d, ztB, zbk, ztT, ztr_b, ztr_i, ztr_n, ztr_t, ztr_l, ztr_s, ztAnd, ztOr, ztNot, zeAnd, zeOr, zeNot, zeIf, zaNil, zaCons, zTup, zLst, zCB, zCall, zCallK, zfdn, zDicK, zpNone, zpSome, zpsk, zSl, zChain, zchk, zSeq, zsNil, zBreak, zCont, zIf, zSet, zs_d, zs_l, zs_k, zs_b, zRet, zr_d, zr_l, zr_k, zr_b, zRetN, zDrop, zFor, ziE, zit_t, zit_l, zit_s, zR1, zr1, zR2, zr2, zgN, zAsg, zgT, zgsC, zgsN, zApp, zap0, zap, zLc, zclr, zclr2, zbck, zkeep_d, zkeep_n, zDP, zdp0, zdp, zky_i, zky_s, xSorted, xNe_bb, zPop, zpopk, zExt, zextk, zextk2, xUpper, xInW, xIxW, xLt_ss, xLe_ss, xGt_ss, xSl_t, xSl_l, xSl_s, zlNil, zlCons, zpin_d, zpin_l, zpin_k, zpin_b, zlkL0, zlkL1, zCallL, zimm_d, zimm_l, zimm_k, zimm_i, zimm_s, zimm_b, zimm_n, zimm_t, zimm_0, zimm_1, zSortSet, List.length_cons, List.length_nil, List.nil_append, List.append_nil, List.cons_append, true_and, and_true, reduceIte, if_true, if_false, decide_eq_true_eq, Bool.not_true, Bool.not_false, Bool.not_eq_true, Bool.false_eq_true, Nat.reduceAdd, Nat.zero_add, Bool.not_eq_false, decide_false, decide_true, Bool.not_eq_eq_eq_not, Bool.true_eq, decide_not, Bool.not_not, decide_eq_false_iff_not, eq_self, ne_any_is, ne_any_has, ne_any_not, ne_any_and, ne_any_or, ne_is_any, ne_is_has, ne_is_not, ne_is_and, ne_is_or, ne_has_any, ne_has_is, ne_has_not, ne_has_and, ne_has_or, ne_not_any, ne_not_is, ne_not_has, ne_not_and, ne_not_or, ne_and_any, ne_and_is, ne_and_has, ne_and_not, ne_and_or, ne_or_any, ne_or_is, ne_or_has, ne_or_not, ne_or_and]
    refine ih _ ?_
    simp only [xEq_ii, xEq_ss, xEq_nn, xEq_bb, xEq_ni, xEq_in, xNe_ii, xNe_ss, xLt_ii, xGt_ii, xLe_ii, xGe_ii, xAdd_ii, xAdd_ss, xAdd_tt, xAdd_ll, xSub_ii, xMul_ii, xDiv_ii, xMod_ii, xPow_ii, xNeg_i, xInt_i, xInt_b, xLen_t, xLen_l, xLen_s, xLen_d, xTuple_l, xTuple_t, xList_l, xList_t, xIx_t, xIx_l, xIx_s, xIx_di, xIx_ds, at0, at1, at2, at3, at4, at5, at6, at7, xIs_nn, xIs_i, xIs_s, xIs_b, xIs_t, xIs_l, xIs_d, xIsB_n, xIsB_i, xIsB_s, xIsB_b, yInt_i, yInt_b, yInt_n, yInt_s, yInt_t, yInt_l, yBool_i, yBool_b, yBool_n, yBool_s, yBool_t, yBool_l, yStr_i, yStr_b, yStr_n, yStr_s, yStr_t, yStr_l, yTup_i, yTup_b, yTup_n, yTup_s, yTup_t, yTup_l, yLst_i, yLst_n, yLst_s, yLst_t, yLst_l, xIn_l, xIn_it, xIn_il, xIn_sd, xLt_pp, xGt_pp, xLe_pp, xGe_pp, xII, z0, z1, z2, zput0, zput1, zC, zV, zv_d, zv_l, zv_k, zOp, zUn, zlk_d, zlk_l, zlk_k, zlk_b, zls_d, zls_l, zls_k, zfz_d, zfz_l, zfz_k, zfz_b, zfr_l, zfr_k, zfr_d, ztB, zbk, ztT, ztr_b, ztr_i, ztr_n, ztr_t, ztr_l, ztr_s, ztAnd, ztOr, ztNot, zeAnd, zeOr, zeNot, zeIf, zaNil, zaCons, zTup, zLst, zCB, zCall, zCallK, zfdn, zDicK, zpNone, zpSome, zpsk, zSl, zChain, zchk, zSeq, zsNil, zBreak, zCont, zIf, zSet, zs_d, zs_l, zs_k, zs_b, zRet, zr_d, zr_l, zr_k, zr_b, zRetN, zDrop, zFor, ziE, zit_t, zit_l, zit_s, zR1, zr1, zR2, zr2, zgN, zAsg, zgT, zgsC, zgsN, zApp, zap0, zap, zLc, zclr, zclr2, zbck, zkeep_d, zkeep_n, zDP, zdp0, zdp, zky_i, zky_s, xSorted, xNe_bb, zPop, zpopk, zExt, zextk, zextk2, xUpper, xInW, xIxW, xLt_ss, xLe_ss, xGt_ss, xSl_t, xSl_l, xSl_s, zlNil, zlCons, zpin_d, zpin_l, zpin_k, zpin_b, zlkL0, zlkL1, zCallL, zimm_d, zimm_l, zimm_k, zimm_i, zimm_s, zimm_b, zimm_n, zimm_t, zimm_0, zimm_1, zSortSet, List.length_cons, List.length_nil, List.nil_append, List.append_nil, List.cons_append, true_and, and_true, reduceIte, if_true, if_false, decide_eq_true_eq, Bool.not_true, Bool.not_false, Bool.not_eq_true, Bool.false_eq_true, Nat.reduceAdd, Nat.zero_add, Bool.not_eq_false, decide_false, decide_true, Bool.not_eq_eq_eq_not, Bool.true_eq, decide_not, Bool.not_not, decide_eq_false_iff_not, eq_self]
    exact h
  | n + 1, .bo a p q, hn, R, h => by
    have i1 := fun R h => holds_ok (ps := ps) n p (by simp only [Q.n] at hn; omega) (R := R) h
    have i2 := fun R h => holds_ok (ps := ps) n q (by simp only [Q.n] at hn; omega) (R := R) h
    show Φ_holds (fn_holds n) _ ⟨[.d (.dic (keysOf ps) (valsOf ps)), .d (Q.bo a p q).D, .no], μ⟩
    unfold Q.ev at h
    cases a with
    | true =>
      simp only [Φ_holds, Q.D, xEq_ii, xEq_ss, xEq_nn, xEq_bb, xEq_ni, xEq_in, xNe_ii, xNe_ss, xLt_ii, xGt_ii, xLe_ii, xGe_ii, xAdd_ii, xAdd_ss, xAdd_tt, xAdd_ll, xSub_ii, xMul_ii, xDiv_ii, xMod_ii, xPow_ii, xNeg_i, xInt_i, xInt_b, xLen_t, xLen_l, xLen_s, xLen_d, xTuple_l, xTuple_t, xList_l, xList_t, xIx_t, xIx_l, xIx_s, xIx_di, xIx_ds, at0, at1, at2, at3, at4, at5, at6, at7, xIs_nn, xIs_i, xIs_s, xIs_b, xIs_t, xIs_l, xIs_d, xIsB_n, xIsB_i, xIsB_s, xIsB_b, yInt_i, yInt_b, yInt_n, yInt_s, yInt_t, yInt_l, yBool_i, yBool_b, yBool_n, yBool_s, yBool_t, yBool_l, yStr_i, yStr_b, yStr_n, yStr_s, yStr_t, yStr_l, yTup_i, yTup_b, yTup_n, yTup_s, yTup_t, yTup_l, yLst_i, yLst_n, yLst_s, yLst_t, yLst_l, xIn_l, xIn_it, xIn_il, xIn_sd, xLt_pp, xGt_pp, xLe_pp, xGe_pp, xII, z0, z1, z2, zput0, zput1, zC, zV, zv_d, zv_l, zv_k, zOp, zUn, zlk_d, zlk_l, zlk_k, zlk_b, zls_d, zls_l, zls_k, zfz_d, zfz_l, zfz_k, zfz_b, zfr_l, zfr_k, zfr_d, ztB, zbk, ztT, ztr_b, ztr_i, ztr_n, ztr_t, ztr_l, ztr_s, ztAnd, ztOr, ztNot, zeAnd, zeOr, zeNot, zeIf, zaNil, zaCons, zTup, zLst, zCB, zCall, zCallK, zfdn, zDicK, zpNone, zpSome, zpsk, zSl, zChain, zchk, zSeq, zsNil, zBreak, zCont, zIf, zSet, zs_d, zs_l, zs_k, zs_b, zRet, zr_d, zr_l, zr_k, zr_b, zRetN, zDrop, zFor, ziE, zit_t, zit_l, zit_s, zR1, zr1, zR2, zr2, zgN, zAsg, zgT, zgsC, zgsN, zApp, zap0, zap, zLc, zclr, zclr2, zbck, zkeep_d, zkeep_n, zDP, zdp0, zdp, zky_i, zky_s, xSorted, xNe_bb, zPop, zpopk, zExt, zextk, zextk2, xUpper, xInW, xIxW, xLt_ss, xLe_ss, xGt_ss, xSl_t, xSl_l, xSl_s, zlNil, zlCons, zpin_d, zpin_l, zpin_k, zpin_b, zlkL0, zlkL1, zCallL, zimm_d, zimm_l, zimm_k, zimm_i, zimm_s, zimm_b, zimm_n, zimm_t, zimm_0, zimm_1, zSortSet, List.length_cons, List.length_nil, List.nil_append, List.append_nil, List.cons_append, true_and, and_true, reduceIte, if_true, if_false, decide_eq_true_eq, Bool.not_true, Bool.not_false, Bool.not_eq_true, Bool.false_eq_true, Nat.reduceAdd, Nat.zero_add, Bool.not_eq_false, decide_false, decide_true, Bool.not_eq_eq_eq_not, Bool.true_eq, decide_not, Bool.not_not, decide_eq_false_iff_not, eq_self, ne_any_is, ne_any_has, ne_any_not, ne_any_and, ne_any_or, ne_is_any, ne_is_has, ne_is_not, ne_is_and, ne_is_or, ne_has_any, ne_has_is, ne_has_not, ne_has_and, ne_has_or, ne_not_any, ne_not_is, ne_not_has, ne_not_and, ne_not_or, ne_and_any, ne_and_is, ne_and_has, ne_and_not, ne_and_or, ne_or_any, ne_or_is, ne_or_has, ne_or_not, ne_or_and]
      refine i1 _ ?_
      simp only [if_true] at h
      cases e : p.ev ps
      · rw [e] at h; simp only [xEq_ii, xEq_ss, xEq_nn, xEq_bb, xEq_ni, xEq_in, xNe_ii, xNe_ss, xLt_ii, xGt_ii, xLe_ii, xGe_ii, xAdd_ii, xAdd_ss, xAdd_tt, xAdd_ll, xSub_ii, xMul_ii, xDiv_ii, xMod_ii, xPow_ii, xNeg_i, xInt_i, xInt_b, xLen_t, xLen_l, xLen_s, xLen_d, xTuple_l, xTuple_t, xList_l, xList_t, xIx_t, xIx_l, xIx_s, xIx_di, xIx_ds, at0, at1, at2, at3, at4, at5, at6, at7, xIs_nn, xIs_i, xIs_s, xIs_b, xIs_t, xIs_l, xIs_d, xIsB_n, xIsB_i, xIsB_s, xIsB_b, yInt_i, yInt_b, yInt_n, yInt_s, yInt_t, yInt_l, yBool_i, yBool_b, yBool_n, yBool_s, yBool_t, yBool_l, yStr_i, yStr_b, yStr_n, yStr_s, yStr_t, yStr_l, yTup_i, yTup_b, yTup_n, yTup_s, yTup_t, yTup_l, yLst_i, yLst_n, yLst_s, yLst_t, yLst_l, xIn_l, xIn_it, xIn_il, xIn_sd, xLt_pp, xGt_pp, xLe_pp, xGe_pp, xII, z0, z1, z2, zput0, zput1, zC, zV, zv_d, zv_l, zv_k, zOp, zUn, zlk_d, zlk_l, zlk_k, zlk_b, zls_d, zls_l, zls_k, zfz_d, zfz_l, zfz_k, zfz_b, zfr_l, zfr_k, zfr_d, ztB, zbk, ztT, ztr_b, ztr_i, ztr_n, ztr_t, ztr_l, ztr_s, ztAnd, ztOr, ztNot, zeAnd, zeOr, zeNot, zeIf, zaNil, zaCons, zTup, zLst, zCB, zCall, zCallK, zfdn, zDicK, zpNone, zpSome, zpsk, zSl, zChain, zchk, zSeq, zsNil, zBreak, zCont, zIf, zSet, zs_d, zs_l, zs_k, zs_b, zRet, zr_d, zr_l, zr_k, zr_b, zRetN, zDrop, zFor, ziE, zit_t, zit_l, zit_s, zR1, zr1, zR2, zr2, zgN, zAsg, zgT, zgsC, zgsN, zApp, zap0, zap, zLc, zclr, zclr2, zbck, zkeep_d, zkeep_n, zDP, zdp0, zdp, zky_i, zky_s, xSorted, xNe_bb, zPop, zpopk, zExt, zextk, zextk2, xUpper, xInW, xIxW, xLt_ss, xLe_ss, xGt_ss, xSl_t, xSl_l, xSl_s, zlNil, zlCons, zpin_d, zpin_l, zpin_k, zpin_b, zlkL0, zlkL1, zCallL, zimm_d, zimm_l, zimm_k, zimm_i, zimm_s, zimm_b, zimm_n, zimm_t, zimm_0, zimm_1, zSortSet, List.length_cons, List.length_nil, List.nil_append, List.append_nil, List.cons_append, true_and, and_true, reduceIte, if_true, if_false, decide_eq_true_eq, Bool.not_true, Bool.not_false, Bool.not_eq_true, Bool.false_eq_true, Nat.reduceAdd, Nat.zero_add, Bool.not_eq_false, decide_false, decide_true, Bool.not_eq_eq_eq_not, Bool.true_eq, decide_not, Bool.not_not, decide_eq_false_iff_not, eq_self]; exact h
      · rw [e] at h
        simp only [xEq_ii, xEq_ss, xEq_nn, xEq_bb, xEq_ni, xEq_in, xNe_ii, xNe_ss, xLt_ii, xGt_ii, xLe_ii, xGe_ii, xAdd_ii, xAdd_ss, xAdd_tt, xAdd_ll, xSub_ii, xMul_ii, xDiv_ii, xMod_ii, xPow_ii, xNeg_i, xInt_i, xInt_b, xLen_t, xLen_l, xLen_s, xLen_d, xTuple_l, xTuple_t, xList_l, xList_t, xIx_t, xIx_l, xIx_s, xIx_di, xIx_ds, at0, at1, at2, at3, at4, at5, at6, at7, xIs_nn, xIs_i, xIs_s, xIs_b, xIs_t, xIs_l, xIs_d, xIsB_n, xIsB_i, xIsB_s, xIsB_b, yInt_i, yInt_b, yInt_n, yInt_s, yInt_t, yInt_l, yBool_i, yBool_b, yBool_n, yBool_s, yBool_t, yBool_l, yStr_i, yStr_b, yStr_n, yStr_s, yStr_t, yStr_l, yTup_i, yTup_b, yTup_n, yTup_s, yTup_t, yTup_l, yLst_i, yLst_n, yLst_s, yLst_t, yLst_l, xIn_l, xIn_it, xIn_il, xIn_sd, xLt_pp, xGt_pp, xLe_pp, xGe_pp, xII, z0, z1, z2, zput0, zput1, zC, zV, zv_d, zv_l, zv_k, zOp, zUn, zlk_d, zlk_l, zlk_k, zlk_b, zls_d, zls_l, zls_k, zfz_d, zfz_l, zfz_k, zfz_b, zfr_l, zfr_k, zfr_d, ztB, zbk, ztT, ztr_b, ztr_i, ztr_n, ztr_t, ztr_l, ztr_s, ztAnd, ztOr, ztNot, zeAnd, zeOr, zeNot, zeIf, zaNil, zaCons, zTup, zLst, zCB, zCall, zCallK, zfdn, zDicK, zpNone, zpSome, zpsk, zSl, zChain, zchk, zSeq, zsNil, zBreak, zCont, zIf, zSet, zs_d, zs_l, zs_k, zs_b, zRet, zr_d, zr_l, zr_k, zr_b, zRetN, zDrop, zFor, ziE, zit_t, zit_l, zit_s, zR1, zr1, zR2, zr2, zgN, zAsg, zgT, zgsC, zgsN, zApp, zap0, zap, zLc, zclr, zclr2, zbck, zkeep_d, zkeep_n, zDP, zdp0, zdp, zky_i, zky_s, xSorted, xNe_bb, zPop, zpopk, zExt, zextk, zextk2, xUpper, xInW, xIxW, xLt_ss, xLe_ss, xGt_ss, xSl_t, xSl_l, xSl_s, zlNil, zlCons, zpin_d, zpin_l, zpin_k, zpin_b, zlkL0, zlkL1, zCallL, zimm_d, zimm_l, zimm_k, zimm_i, zimm_s, zimm_b, zimm_n, zimm_t, zimm_0, zimm_1, zSortSet, List.length_cons, List.length_nil, List.nil_append, List.append_nil, List.cons_append, true_and, and_true, reduceIte, if_true, if_false, decide_eq_true_eq, Bool.not_true, Bool.not_false, Bool.not_eq_true, Bool.false_eq_true, Nat.reduceAdd, Nat.zero_add, Bool.not_eq_false, decide_false, decide_true, Bool.not_eq_eq_eq_not, Bool.true_eq, decide_not, Bool.not_not, decide_eq_false_iff_not, eq_self]
        refine i2 _ ?_
        simp only [xEq_ii, xEq_ss, xEq_nn, xEq_bb, xEq_ni, xEq_in, xNe_ii, xNe_ss, xLt_ii, xGt_ii, xLe_ii, xGe_ii, xAdd_ii, xAdd_ss, xAdd_tt, xAdd_ll, xSub_ii, xMul_ii, xDiv_ii, xMod_ii, xPow_ii, xNeg_i, xInt_i, xInt_b, xLen_t, xLen_l, xLen_s, xLen_d, xTuple_l, xTuple_t, xList_l, xList_t, xIx_t, xIx_l, xIx_s, xIx_di, xIx_ds, at0, at1, at2, at3, at4, at5, at6, at7, xIs_nn, xIs_i, xIs_s, xIs_b, xIs_t, xIs_l, xIs_d, xIsB_n, xIsB_i, xIsB_s, xIsB_b, yInt_i, yInt_b, yInt_n, yInt_s, yInt_t, yInt_l, yBool_i, yBool_b, yBool_n, yBool_s, yBool_t, yBool_l, yStr_i, yStr_b, yStr_n, yStr_s, yStr_t, yStr_l, yTup_i, yTup_b, yTup_n, yTup_s, yTup_t, yTup_l, yLst_i, yLst_n, yLst_s, yLst_t, yLst_l, xIn_l, xIn_it, xIn_il, xIn_sd, xLt_pp, xGt_pp, xLe_pp, xGe_pp, xII, z0, z1, z2, zput0, zput1, zC, zV, zv_d, zv_l, zv_k, zOp, zUn, zlk_d, zlk_l, zlk_k, zlk_b, zls_d, zls_l, zls_k, zfz_d, zfz_l, zfz_k, zfz_b, zfr_l, zfr_k, zfr_d, ztB, zbk, ztT, ztr_b, ztr_i, ztr_n, ztr_t, ztr_l, ztr_s, ztAnd, ztOr, ztNot, zeAnd, zeOr, zeNot, zeIf, zaNil, zaCons, zTup, zLst, zCB, zCall, zCallK, zfdn, zDicK, zpNone, zpSome, zpsk, zSl, zChain, zchk, zSeq, zsNil, zBreak, zCont, zIf, zSet, zs_d, zs_l, zs_k, zs_b, zRet, zr_d, zr_l, zr_k, zr_b, zRetN, zDrop, zFor, ziE, zit_t, zit_l, zit_s, zR1, zr1, zR2, zr2, zgN, zAsg, zgT, zgsC, zgsN, zApp, zap0, zap, zLc, zclr, zclr2, zbck, zkeep_d, zkeep_n, zDP, zdp0, zdp, zky_i, zky_s, xSorted, xNe_bb, zPop, zpopk, zExt, zextk, zextk2, xUpper, xInW, xIxW, xLt_ss, xLe_ss, xGt_ss, xSl_t, xSl_l, xSl_s, zlNil, zlCons, zpin_d, zpin_l, zpin_k, zpin_b, zlkL0, zlkL1, zCallL, zimm_d, zimm_l, zimm_k, zimm_i, zimm_s, zimm_b, zimm_n, zimm_t, zimm_0, zimm_1, zSortSet, List.length_cons, List.length_nil, List.nil_append, List.append_nil, List.cons_append, true_and, and_true, reduceIte, if_true, if_false, decide_eq_true_eq, Bool.not_true, Bool.not_false, Bool.not_eq_true, Bool.false_eq_true, Nat.reduceAdd, Nat.zero_add, Bool.not_eq_false, decide_false, decide_true, Bool.not_eq_eq_eq_not, Bool.true_eq, decide_not, Bool.not_not, decide_eq_false_iff_not, eq_self]
        exact h
    | false =>
      simp only [Φ_holds, Q.D, xEq_ii, xEq_ss, xEq_nn, xEq_bb, xEq_ni, xEq_in, xNe_ii, xNe_ss, xLt_ii, xGt_ii, xLe_ii, xGe_ii, xAdd_ii, xAdd_ss, xAdd_tt, xAdd_ll, xSub_ii, xMul_ii, xDiv_ii, xMod_ii, xPow_ii, xNeg_i, xInt_i, xInt_b, xLen_t, xLen_l, xLen_s, xLen_d, xTuple_l, xTuple_t, xList_l, xList_t, xIx_t, xIx_l, xIx_s, xIx_di, xIx_ds, at0, at1, at2, at3, at4, at5, at6, at7, xIs_nn, xIs_i, xIs_s, xIs_b, xIs_t, xIs_l, xIs_d, xIsB_n, xIsB_i, xIsB_s, xIsB_b, yInt_i, yInt_b, yInt_n, yInt_s, yInt_t, yInt_l, yBool_i, yBool_b, yBool_n, yBool_s, yBool_t, yBool_l, yStr_i, yStr_b, yStr_n, yStr_s, yStr_t, yStr_l, yTup_i, yTup_b, yTup_n, yTup_s, yTup_t, yTup_l, yLst_i, yLst_n, yLst_s, yLst_t, yLst_l, xIn_l, xIn_it, xIn_il, xIn_sd, xLt_pp, xGt_pp, xLe_pp, xGe_pp, xII, z0, z1, z2, zput0, zput1, zC, zV, zv_d, zv_l, zv_k, zOp, zUn, zlk_d, zlk_l, zlk_k, zlk_b, zls_d, zls_l, zls_k, zfz_d, zfz_l, zfz_k, zfz_b, zfr_l, zfr_k, zfr_d, ztB, zbk, ztT, ztr_b, ztr_i, ztr_n, ztr_t, ztr_l, ztr_s, ztAnd, ztOr, ztNot, zeAnd, zeOr, zeNot, zeIf, zaNil, zaCons, zTup, zLst, zCB, zCall, zCallK, zfdn, zDicK, zpNone, zpSome, zpsk, zSl, zChain, zchk, zSeq, zsNil, zBreak, zCont, zIf, zSet, zs_d, zs_l, zs_k, zs_b, zRet, zr_d, zr_l, zr_k, zr_b, zRetN, zDrop, zFor, ziE, zit_t, zit_l, zit_s, zR1, zr1, zR2, zr2, zgN, zAsg, zgT, zgsC, zgsN, zApp, zap0, zap, zLc, zclr, zclr2, zbck, zkeep_d, zkeep_n, zDP, zdp0, zdp, zky_i, zky_s, xSorted, xNe_bb, zPop, zpopk, zExt, zextk, zextk2, xUpper, xInW, xIxW, xLt_ss, xLe_ss, xGt_ss, xSl_t, xSl_l, xSl_s, zlNil, zlCons, zpin_d, zpin_l, zpin_k, zpin_b, zlkL0, zlkL1, zCallL, zimm_d, zimm_l, zimm_k, zimm_i, zimm_s, zimm_b, zimm_n, zimm_t, zimm_0, zimm_1, zSortSet, List.length_cons, List.length_nil, List.nil_append, List.append_nil, List.cons_append, true_and, and_true, reduceIte, if_true, if_false, decide_eq_true_eq, Bool.not_true, Bool.not_false, Bool.not_eq_true, Bool.false_eq_true, Nat.reduceAdd, Nat.zero_add, Bool.not_eq_false, decide_false, decide_true, Bool.not_eq_eq_eq_not, Bool.true_eq, decide_not, Bool.not_not, decide_eq_false_iff_not, eq_self, ne_any_is, ne_any_has, ne_any_not, ne_any_and, ne_any_or, ne_is_any, ne_is_has, ne_is_not, ne_is_and, ne_is_or, ne_has_any, ne_has_is, ne_has_not, ne_has_and, ne_has_or, ne_not_any, ne_not_is, ne_not_has, ne_not_and, ne_not_or, ne_and_any, ne_and_is, ne_and_has, ne_and_not, ne_and_or, ne_or_any, ne_or_is, ne_or_has, ne_or_not, ne_or_and]
      refine i1 _ ?_
      simp only [Bool.false_eq_true, if_false] at h
      cases e : p.ev ps
      · rw [e] at h
        simp only [xEq_ii, xEq_ss, xEq_nn, xEq_bb, xEq_ni, xEq_in, xNe_ii, xNe_ss, xLt_ii, xGt_ii, xLe_ii, xGe_ii, xAdd_ii, xAdd_ss, xAdd_tt, xAdd_ll, xSub_ii, xMul_ii, xDiv_ii, xMod_ii, xPow_ii, xNeg_i, xInt_i, xInt_b, xLen_t, xLen_l, xLen_s, xLen_d, xTuple_l, xTuple_t, xList_l, xList_t, xIx_t, xIx_l, xIx_s, xIx_di, xIx_ds, at0, at1, at2, at3, at4, at5, at6, at7, xIs_nn, xIs_i, xIs_s, xIs_b, xIs_t, xIs_l, xIs_d, xIsB_n, xIsB_i, xIsB_s, xIsB_b, yInt_i, yInt_b, yInt_n, yInt_s, yInt_t, yInt_l, yBool_i, yBool_b, yBool_n, yBool_s, yBool_t, yBool_l, yStr_i, yStr_b, yStr_n, yStr_s, yStr_t, yStr_l, yTup_i, yTup_b, yTup_n, yTup_s, yTup_t, yTup_l, yLst_i, yLst_n, yLst_s, yLst_t, yLst_l, xIn_l, xIn_it, xIn_il, xIn_sd, xLt_pp, xGt_pp, xLe_pp, xGe_pp, xII, z0, z1, z2, zput0, zput1, zC, zV, zv_d, zv_l, zv_k, zOp, zUn, zlk_d, zlk_l, zlk_k, zlk_b, zls_d, zls_l, zls_k, zfz_d, zfz_l, zfz_k, zfz_b, zfr_l, zfr_k, zfr_d, ztB, zbk, ztT, ztr_b, ztr_i, ztr_n, ztr_t, ztr_l, ztr_s, ztAnd, ztOr, ztNot, zeAnd, zeOr, zeNot, zeIf, zaNil, zaCons, zTup, zLst, zCB, zCall, zCallK, zfdn, zDicK, zpNone, zpSome, zpsk, zSl, zChain, zchk, zSeq, zsNil, zBreak, zCont, zIf, zSet, zs_d, zs_l, zs_k, zs_b, zRet, zr_d, zr_l, zr_k, zr_b, zRetN, zDrop, zFor, ziE, zit_t, zit_l, zit_s, zR1, zr1, zR2, zr2, zgN, zAsg, zgT, zgsC, zgsN, zApp, zap0, zap, zLc, zclr, zclr2, zbck, zkeep_d, zkeep_n, zDP, zdp0, zdp, zky_i, zky_s, xSorted, xNe_bb, zPop, zpopk, zExt, zextk, zextk2, xUpper, xInW, xIxW, xLt_ss, xLe_ss, xGt_ss, xSl_t, xSl_l, xSl_s, zlNil, zlCons, zpin_d, zpin_l, zpin_k, zpin_b, zlkL0, zlkL1, zCallL, zimm_d, zimm_l, zimm_k, zimm_i, zimm_s, zimm_b, zimm_n, zimm_t, zimm_0, zimm_1, zSortSet, List.length_cons, List.length_nil, List.nil_append, List.append_nil, List.cons_append, true_and, and_true, reduceIte, if_true, if_false, decide_eq_true_eq, Bool.not_true, Bool.not_false, Bool.not_eq_true, Bool.false_eq_true, Nat.reduceAdd, Nat.zero_add, Bool.not_eq_false, decide_false, decide_true, Bool.not_eq_eq_eq_not, Bool.true_eq, decide_not, Bool.not_not, decide_eq_false_iff_not, eq_self]
        refine i2 _ ?_
        simp only [xEq_ii, xEq_ss, xEq_nn, xEq_bb, xEq_ni, xEq_in, xNe_ii, xNe_ss, xLt_ii, xGt_ii, xLe_ii, xGe_ii, xAdd_ii, xAdd_ss, xAdd_tt, xAdd_ll, xSub_ii, xMul_ii, xDiv_ii, xMod_ii, xPow_ii, xNeg_i, xInt_i, xInt_b, xLen_t, xLen_l, xLen_s, xLen_d, xTuple_l, xTuple_t, xList_l, xList_t, xIx_t, xIx_l, xIx_s, xIx_di, xIx_ds, at0, at1, at2, at3, at4, at5, at6, at7, xIs_nn, xIs_i, xIs_s, xIs_b, xIs_t, xIs_l, xIs_d, xIsB_n, xIsB_i, xIsB_s, xIsB_b, yInt_i, yInt_b, yInt_n, yInt_s, yInt_t, yInt_l, yBool_i, yBool_b, yBool_n, yBool_s, yBool_t, yBool_l, yStr_i, yStr_b, yStr_n, yStr_s, yStr_t, yStr_l, yTup_i, yTup_b, yTup_n, yTup_s, yTup_t, yTup_l, yLst_i, yLst_n, yLst_s, yLst_t, yLst_l, xIn_l, xIn_it, xIn_il, xIn_sd, xLt_pp, xGt_pp, xLe_pp, xGe_pp, xII, z0, z1, z2, zput0, zput1, zC, zV, zv_d, zv_l, zv_k, zOp, zUn, zlk_d, zlk_l, zlk_k, zlk_b, zls_d, zls_l, zls_k, zfz_d, zfz_l, zfz_k, zfz_b, zfr_l, zfr_k, zfr_d, ztB, zbk, ztT, ztr_b, ztr_i, ztr_n, ztr_t, ztr_l, ztr_s, ztAnd, ztOr, ztNot, zeAnd, zeOr, zeNot, zeIf, zaNil, zaCons, zTup, zLst, zCB, zCall, zCallK, zfdn, zDicK, zpNone, zpSome, zpsk, zSl, zChain, zchk, zSeq, zsNil, zBreak, zCont, zIf, zSet, zs_d, zs_l, zs_k, zs_b, zRet, zr_d, zr_l, zr_k, zr_b, zRetN, zDrop, zFor, ziE, zit_t, zit_l, zit_s, zR1, zr1, zR2, zr2, zgN, zAsg, zgT, zgsC, zgsN, zApp, zap0, zap, zLc, zclr, zclr2, zbck, zkeep_d, zkeep_n, zDP, zdp0, zdp, zky_i, zky_s, xSorted, xNe_bb, zPop, zpopk, zExt, zextk, zextk2, xUpper, xInW, xIxW, xLt_ss, xLe_ss, xGt_ss, xSl_t, xSl_l, xSl_s, zlNil, zlCons, zpin_d, zpin_l, zpin_k, zpin_b, zlkL0, zlkL1, zCallL, zimm_d, zimm_l, zimm_k, zimm_i, zimm_s, zimm_b, zimm_n, zimm_t, zimm_0, zimm_1, zSortSet, List.length_cons, List.length_nil, List.nil_append, List.append_nil, List.cons_append, true_and, and_true, reduceIte, if_true, if_false, decide_eq_true_eq, Bool.not_true, Bool.not_false, Bool.not_eq_true, Bool.false_eq_true, Nat.reduceAdd, Nat.zero_add, Bool.not_eq_false, decide_false, decide_true, Bool.not_eq_eq_eq_not, Bool.true_eq, decide_not, Bool.not_not, decide_eq_false_iff_not, eq_self]
        exact h
      · rw [e] at h; simp only [xEq_ii, xEq_ss, xEq_nn, xEq_bb, xEq_ni, xEq_in, xNe_ii, xNe_ss, xLt_ii, xGt_ii, xLe_ii, xGe_ii, xAdd_ii, xAdd_ss, xAdd_tt, xAdd_ll, xSub_ii, xMul_ii, xDiv_ii, xMod_ii, xPow_ii, xNeg_i, xInt_i, xInt_b, xLen_t, xLen_l, xLen_s, xLen_d, xTuple_l, xTuple_t, xList_l, xList_t, xIx_t, xIx_l, xIx_s, xIx_di, xIx_ds, at0, at1, at2, at3, at4, at5, at6, at7, xIs_nn, xIs_i, xIs_s, xIs_b, xIs_t, xIs_l, xIs_d, xIsB_n, xIsB_i, xIsB_s, xIsB_b, yInt_i, yInt_b, yInt_n, yInt_s, yInt_t, yInt_l, yBool_i, yBool_b, yBool_n, yBool_s, yBool_t, yBool_l, yStr_i, yStr_b, yStr_n, yStr_s, yStr_t, yStr_l, yTup_i, yTup_b, yTup_n, yTup_s, yTup_t, yTup_l, yLst_i, yLst_n, yLst_s, yLst_t, yLst_l, xIn_l, xIn_it, xIn_il, xIn_sd, xLt_pp, xGt_pp, xLe_pp, xGe_pp, xII, z0, z1, z2, zput0, zput1, zC, zV, zv_d, zv_l, zv_k, zOp, zUn, zlk_d, zlk_l, zlk_k, zlk_b, zls_d, zls_l, zls_k, zfz_d, zfz_l, zfz_k, zfz_b, zfr_l, zfr_k, zfr_d, ztB, zbk, ztT, ztr_b, ztr_i, ztr_n, ztr_t, ztr_l, ztr_s, ztAnd, ztOr, ztNot, zeAnd, zeOr, zeNot, zeIf, zaNil, zaCons, zTup, zLst, zCB, zCall, zCallK, zfdn, zDicK, zpNone, zpSome, zpsk, zSl, zChain, zchk, zSeq, zsNil, zBreak, zCont, zIf, zSet, zs_d, zs_l, zs_k, zs_b, zRet, zr_d, zr_l, zr_k, zr_b, zRetN, zDrop, zFor, ziE, zit_t, zit_l, zit_s, zR1, zr1, zR2, zr2, zgN, zAsg, zgT, zgsC, zgsN, zApp, zap0, zap, zLc, zclr, zclr2, zbck, zkeep_d, zkeep_n, zDP, zdp0, zdp, zky_i, zky_s, xSorted, xNe_bb, zPop, zpopk, zExt, zextk, zextk2, xUpper, xInW, xIxW, xLt_ss, xLe_ss, xGt_ss, xSl_t, xSl_l, xSl_s, zlNil, zlCons, zpin_d, zpin_l, zpin_k, zpin_b, zlkL0, zlkL1, zCallL, zimm_d, zimm_l, zimm_k, zimm_i, zimm_s, zimm_b, zimm_n, zimm_t, zimm_0, zimm_1, zSortSet, List.length_cons, List.length_nil, List.nil_append, List.append_nil, List.cons_append, true_and, and_true, reduceIte, if_true, if_false, decide_eq_true_eq, Bool.not_true, Bool.not_false, Bool.not_eq_true, Bool.false_eq_true, Nat.reduceAdd, Nat.zero_add, Bool.not_eq_false, decide_false, decide_true, Bool.not_eq_eq_eq_not, Bool.true_eq, decide_not, Bool.not_not, decide_eq_false_iff_not, eq_self]; exact h
theorem fits_ok {ps : List Pr} {q : Q} (s : Ser ps) (o : q.Ok) (hn : q.n ≤ 60) (h : R (.d (.bl (q.ev ps))) μ) : fn_fits [.tup (ps.map prD), q.D] μ R := by
  show Φ_fits _ ⟨[.d (.tup (ps.map prD)), .d q.D], μ⟩
  simp only [Φ_fits, xEq_ii, xEq_ss, xEq_nn, xEq_bb, xEq_ni, xEq_in, xNe_ii, xNe_ss, xLt_ii, xGt_ii, xLe_ii, xGe_ii, xAdd_ii, xAdd_ss, xAdd_tt, xAdd_ll, xSub_ii, xMul_ii, xDiv_ii, xMod_ii, xPow_ii, xNeg_i, xInt_i, xInt_b, xLen_t, xLen_l, xLen_s, xLen_d, xTuple_l, xTuple_t, xList_l, xList_t, xIx_t, xIx_l, xIx_s, xIx_di, xIx_ds, at0, at1, at2, at3, at4, at5, at6, at7, xIs_nn, xIs_i, xIs_s, xIs_b, xIs_t, xIs_l, xIs_d, xIsB_n, xIsB_i, xIsB_s, xIsB_b, yInt_i, yInt_b, yInt_n, yInt_s, yInt_t, yInt_l, yBool_i, yBool_b, yBool_n, yBool_s, yBool_t, yBool_l, yStr_i, yStr_b, yStr_n, yStr_s, yStr_t, yStr_l, yTup_i, yTup_b, yTup_n, yTup_s, yTup_t, yTup_l, yLst_i, yLst_n, yLst_s, yLst_t, yLst_l, xIn_l, xIn_it, xIn_il, xIn_sd, xLt_pp, xGt_pp, xLe_pp, xGe_pp, xII, z0, z1, z2, zput0, zput1, zC, zV, zv_d, zv_l, zv_k, zOp, zUn, zlk_d, zlk_l, zlk_k, zlk_b, zls_d, zls_l, zls_k, zfz_d, zfz_l, zfz_k, zfz_b, zfr_l, zfr_k, zfr_d, ztB, zbk, ztT, ztr_b, ztr_i, ztr_n, ztr_t, ztr_l, ztr_s, ztAnd, ztOr, ztNot, zeAnd, zeOr, zeNot, zeIf, zaNil, zaCons, zTup, zLst, zCB, zCall, zCallK, zfdn, zDicK, zpNone, zpSome, zpsk, zSl, zChain, zchk, zSeq, zsNil, zBreak, zCont, zIf, zSet, zs_d, zs_l, zs_k, zs_b, zRet, zr_d, zr_l, zr_k, zr_b, zRetN, zDrop, zFor, ziE, zit_t, zit_l, zit_s, zR1, zr1, zR2, zr2, zgN, zAsg, zgT, zgsC, zgsN, zApp, zap0, zap, zLc, zclr, zclr2, zbck, zkeep_d, zkeep_n, zDP, zdp0, zdp, zky_i, zky_s, xSorted, xNe_bb, zPop, zpopk, zExt, zextk, zextk2, xUpper, xInW, xIxW, xLt_ss, xLe_ss, xGt_ss, xSl_t, xSl_l, xSl_s, zlNil, zlCons, zpin_d, zpin_l, zpin_k, zpin_b, zlkL0, zlkL1, zCallL, zimm_d, zimm_l, zimm_k, zimm_i, zimm_s, zimm_b, zimm_n, zimm_t, zimm_0, zimm_1, zSortSet, List.length_cons, List.length_nil, List.nil_append, List.append_nil, List.cons_append, true_and, and_true, reduceIte, if_true, if_false, decide_eq_true_eq, Bool.not_true, Bool.not_false, Bool.not_eq_true, Bool.false_eq_true, Nat.reduceAdd, Nat.zero_add, Bool.not_eq_false, decide_false, decide_true, Bool.not_eq_eq_eq_not, Bool.true_eq, decide_not, Bool.not_not, decide_eq_false_iff_not, eq_self]
  refine check_series_ok s ?_
  (try simp only [xEq_ii, xEq_ss, xEq_nn, xEq_bb, xEq_ni, xEq_in, xNe_ii, xNe_ss, xLt_ii, xGt_ii, xLe_ii, xGe_ii, xAdd_ii, xAdd_ss, xAdd_tt, xAdd_ll, xSub_ii, xMul_ii, xDiv_ii, xMod_ii, xPow_ii, xNeg_i, xInt_i, xInt_b, xLen_t, xLen_l, xLen_s, xLen_d, xTuple_l, xTuple_t, xList_l, xList_t, xIx_t, xIx_l, xIx_s, xIx_di, xIx_ds, at0, at1, at2, at3, at4, at5, at6, at7, xIs_nn, xIs_i, xIs_s, xIs_b, xIs_t, xIs_l, xIs_d, xIsB_n, xIsB_i, xIsB_s, xIsB_b, yInt_i, yInt_b, yInt_n, yInt_s, yInt_t, yInt_l, yBool_i, yBool_b, yBool_n, yBool_s, yBool_t, yBool_l, yStr_i, yStr_b, yStr_n, yStr_s, yStr_t, yStr_l, yTup_i, yTup_b, yTup_n, yTup_s, yTup_t, yTup_l, yLst_i, yLst_n, yLst_s, yLst_t, yLst_l, xIn_l, xIn_it, xIn_il, xIn_sd, xLt_pp, xGt_pp, xLe_pp, xGe_pp, xII, z0, z1, z2, zput0, zput1, zC, zV, zv_d, zv_l, zv_k, zOp, zUn, zlk_d, zlk_l, zlk_k, zlk_b, zls_d, zls_l, zls_k, zfz_d, zfz_l, zfz_k, zfz_b, zfr_l, zfr_k, zfr_d, ztB, zbk, ztT, ztr_b, ztr_i, ztr_n, ztr_t, ztr_l, ztr_s, ztAnd, ztOr, ztNot, zeAnd, zeOr, zeNot, zeIf, zaNil, zaCons, zTup, zLst, zCB, zCall, zCallK, zfdn, zDicK, zpNone, zpSome, zpsk, zSl, zChain, zchk, zSeq, zsNil, zBreak, zCont, zIf, zSet, zs_d, zs_l, zs_k, zs_b, zRet, zr_d, zr_l, zr_k, zr_b, zRetN, zDrop, zFor, ziE, zit_t, zit_l, zit_s, zR1, zr1, zR2, zr2, zgN, zAsg, zgT, zgsC, zgsN, zApp, zap0, zap, zLc, zclr, zclr2, zbck, zkeep_d, zkeep_n, zDP, zdp0, zdp, zky_i, zky_s, xSorted, xNe_bb, zPop, zpopk, zExt, zextk, zextk2, xUpper, xInW, xIxW, xLt_ss, xLe_ss, xGt_ss, xSl_t, xSl_l, xSl_s, zlNil, zlCons, zpin_d, zpin_l, zpin_k, zpin_b, zlkL0, zlkL1, zCallL, zimm_d, zimm_l, zimm_k, zimm_i, zimm_s, zimm_b, zimm_n, zimm_t, zimm_0, zimm_1, zSortSet, List.length_cons, List.length_nil, List.nil_append, List.append_nil, List.cons_append, true_and, and_true, reduceIte, if_true, if_false, decide_eq_true_eq, Bool.not_true, Bool.not_false, Bool.not_eq_true, Bool.false_eq_true, Nat.reduceAdd, Nat.zero_add, Bool.not_eq_false, decide_false, decide_true, Bool.not_eq_eq_eq_not, Bool.true_eq, decide_not, Bool.not_not, decide_eq_false_iff_not, eq_self])
  refine check_selector_ok o hn ?_
  (try simp only [xEq_ii, xEq_ss, xEq_nn, xEq_bb, xEq_ni, xEq_in, xNe_ii, xNe_ss, xLt_ii, xGt_ii, xLe_ii, xGe_ii, xAdd_ii, xAdd_ss, xAdd_tt, xAdd_ll, xSub_ii, xMul_ii, xDiv_ii, xMod_ii, xPow_ii, xNeg_i, xInt_i, xInt_b, xLen_t, xLen_l, xLen_s, xLen_d, xTuple_l, xTuple_t, xList_l, xList_t, xIx_t, xIx_l, xIx_s, xIx_di, xIx_ds, at0, at1, at2, at3, at4, at5, at6, at7, xIs_nn, xIs_i, xIs_s, xIs_b, xIs_t, xIs_l, xIs_d, xIsB_n, xIsB_i, xIsB_s, xIsB_b, yInt_i, yInt_b, yInt_n, yInt_s, yInt_t, yInt_l, yBool_i, yBool_b, yBool_n, yBool_s, yBool_t, yBool_l, yStr_i, yStr_b, yStr_n, yStr_s, yStr_t, yStr_l, yTup_i, yTup_b, yTup_n, yTup_s, yTup_t, yTup_l, yLst_i, yLst_n, yLst_s, yLst_t, yLst_l, xIn_l, xIn_it, xIn_il, xIn_sd, xLt_pp, xGt_pp, xLe_pp, xGe_pp, xII, z0, z1, z2, zput0, zput1, zC, zV, zv_d, zv_l, zv_k, zOp, zUn, zlk_d, zlk_l, zlk_k, zlk_b, zls_d, zls_l, zls_k, zfz_d, zfz_l, zfz_k, zfz_b, zfr_l, zfr_k, zfr_d, ztB, zbk, ztT, ztr_b, ztr_i, ztr_n, ztr_t, ztr_l, ztr_s, ztAnd, ztOr, ztNot, zeAnd, zeOr, zeNot, zeIf, zaNil, zaCons, zTup, zLst, zCB, zCall, zCallK, zfdn, zDicK, zpNone, zpSome, zpsk, zSl, zChain, zchk, zSeq, zsNil, zBreak, zCont, zIf, zSet, zs_d, zs_l, zs_k, zs_b, zRet, zr_d, zr_l, zr_k, zr_b, zRetN, zDrop, zFor, ziE, zit_t, zit_l, zit_s, zR1, zr1, zR2, zr2, zgN, zAsg, zgT, zgsC, zgsN, zApp, zap0, zap, zLc, zclr, zclr2, zbck, zkeep_d, zkeep_n, zDP, zdp0, zdp, zky_i, zky_s, xSorted, xNe_bb, zPop, zpopk, zExt, zextk, zextk2, xUpper, xInW, xIxW, xLt_ss, xLe_ss, xGt_ss, xSl_t, xSl_l, xSl_s, zlNil, zlCons, zpin_d, zpin_l, zpin_k, zpin_b, zlkL0, zlkL1, zCallL, zimm_d, zimm_l, zimm_k, zimm_i, zimm_s, zimm_b, zimm_n, zimm_t, zimm_0, zimm_1, zSortSet, List.length_cons, List.length_nil, List.nil_append, List.append_nil, List.cons_append, true_and, and_true, reduceIte, if_true, if_false, decide_eq_true_eq, Bool.not_true, Bool.not_false, Bool.not_eq_true, Bool.false_eq_true, Nat.reduceAdd, Nat.zero_add, Bool.not_eq_false, decide_false, decide_true, Bool.not_eq_eq_eq_not, Bool.true_eq, decide_not, Bool.not_not, decide_eq_false_iff_not, eq_self])
  refine labels_ok s ?_
  (try simp only [xEq_ii, xEq_ss, xEq_nn, xEq_bb, xEq_ni, xEq_in, xNe_ii, xNe_ss, xLt_ii, xGt_ii, xLe_ii, xGe_ii, xAdd_ii, xAdd_ss, xAdd_tt, xAdd_ll, xSub_ii, xMul_ii, xDiv_ii, xMod_ii, xPow_ii, xNeg_i, xInt_i, xInt_b, xLen_t, xLen_l, xLen_s, xLen_d, xTuple_l, xTuple_t, xList_l, xList_t, xIx_t, xIx_l, xIx_s, xIx_di, xIx_ds, at0, at1, at2, at3, at4, at5, at6, at7, xIs_nn, xIs_i, xIs_s, xIs_b, xIs_t, xIs_l, xIs_d, xIsB_n, xIsB_i, xIsB_s, xIsB_b, yInt_i, yInt_b, yInt_n, yInt_s, yInt_t, yInt_l, yBool_i, yBool_b, yBool_n, yBool_s, yBool_t, yBool_l, yStr_i, yStr_b, yStr_n, yStr_s, yStr_t, yStr_l, yTup_i, yTup_b, yTup_n, yTup_s, yTup_t, yTup_l, yLst_i, yLst_n, yLst_s, yLst_t, yLst_l, xIn_l, xIn_it, xIn_il, xIn_sd, xLt_pp, xGt_pp, xLe_pp, xGe_pp, xII, z0, z1, z2, zput0, zput1, zC, zV, zv_d, zv_l, zv_k, zOp, zUn, zlk_d, zlk_l, zlk_k, zlk_b, zls_d, zls_l, zls_k, zfz_d, zfz_l, zfz_k, zfz_b, zfr_l, zfr_k, zfr_d, ztB, zbk, ztT, ztr_b, ztr_i, ztr_n, ztr_t, ztr_l, ztr_s, ztAnd, ztOr, ztNot, zeAnd, zeOr, zeNot, zeIf, zaNil, zaCons, zTup, zLst, zCB, zCall, zCallK, zfdn, zDicK, zpNone, zpSome, zpsk, zSl, zChain, zchk, zSeq, zsNil, zBreak, zCont, zIf, zSet, zs_d, zs_l, zs_k, zs_b, zRet, zr_d, zr_l, zr_k, zr_b, zRetN, zDrop, zFor, ziE, zit_t, zit_l, zit_s, zR1, zr1, zR2, zr2, zgN, zAsg, zgT, zgsC, zgsN, zApp, zap0, zap, zLc, zclr, zclr2, zbck, zkeep_d, zkeep_n, zDP, zdp0, zdp, zky_i, zky_s, xSorted, xNe_bb, zPop, zpopk, zExt, zextk, zextk2, xUpper, xInW, xIxW, xLt_ss, xLe_ss, xGt_ss, xSl_t, xSl_l, xSl_s, zlNil, zlCons, zpin_d, zpin_l, zpin_k, zpin_b, zlkL0, zlkL1, zCallL, zimm_d, zimm_l, zimm_k, zimm_i, zimm_s, zimm_b, zimm_n, zimm_t, zimm_0, zimm_1, zSortSet, List.length_cons, List.length_nil, List.nil_append, List.append_nil, List.cons_append, true_and, and_true, reduceIte, if_true, if_false, decide_eq_true_eq, Bool.not_true, Bool.not_false, Bool.not_eq_true, Bool.false_eq_true, Nat.reduceAdd, Nat.zero_add, Bool.not_eq_false, decide_false, decide_true, Bool.not_eq_eq_eq_not, Bool.true_eq, decide_not, Bool.not_not, decide_eq_false_iff_not, eq_self])
  refine holds_ok 70 q (by omega) ?_
  exact h
/-! the law's own walk -/
theorem lawfits_loop {x : Str} {s : DL.D} {vs : List Str} {hs : Bool} {ps : List Pr} {p : Sl} (e : s = (if hs then Q.has x else Q.is x vs).D)
    (hn : ps.lookup x = none → ∀ y, Δ.nx ⟨[.d w, .d s, .d (.str (if hs then "has" else "is")), y], μ⟩) (hy : ∀ v, ps.lookup x = some v → Δ.rt (.d (.bl (hs || vs.any (· == v)))) μ) :
    forL (gN 3) B_p_law_fits_0 Δ (ps.map prD) ⟨[.d w, .d s, .d (.str (if hs then "has" else "is")), p], μ⟩ := by
  induction ps generalizing p with
  | nil => exact hn rfl p
  | cons a ps ih =>
    simp only [List.map_cons, forL_cons, prD, xEq_ii, xEq_ss, xEq_nn, xEq_bb, xEq_ni, xEq_in, xNe_ii, xNe_ss, xLt_ii, xGt_ii, xLe_ii, xGe_ii, xAdd_ii, xAdd_ss, xAdd_tt, xAdd_ll, xSub_ii, xMul_ii, xDiv_ii, xMod_ii, xPow_ii, xNeg_i, xInt_i, xInt_b, xLen_t, xLen_l, xLen_s, xLen_d, xTuple_l, xTuple_t, xList_l, xList_t, xIx_t, xIx_l, xIx_s, xIx_di, xIx_ds, at0, at1, at2, at3, at4, at5, at6, at7, xIs_nn, xIs_i, xIs_s, xIs_b, xIs_t, xIs_l, xIs_d, xIsB_n, xIsB_i, xIsB_s, xIsB_b, yInt_i, yInt_b, yInt_n, yInt_s, yInt_t, yInt_l, yBool_i, yBool_b, yBool_n, yBool_s, yBool_t, yBool_l, yStr_i, yStr_b, yStr_n, yStr_s, yStr_t, yStr_l, yTup_i, yTup_b, yTup_n, yTup_s, yTup_t, yTup_l, yLst_i, yLst_n, yLst_s, yLst_t, yLst_l, xIn_l, xIn_it, xIn_il, xIn_sd, xLt_pp, xGt_pp, xLe_pp, xGe_pp, xII, z0, z1, z2, zput0, zput1, zC, zV, zv_d, zv_l, zv_k, zOp, zUn, zlk_d, zlk_l, zlk_k, zlk_b, zls_d, zls_l, zls_k, zfz_d, zfz_l, zfz_k, zfz_b, zfr_l, zfr_k, zfr_d, ztB, zbk, ztT, ztr_b, ztr_i, ztr_n, ztr_t, ztr_l, ztr_s, ztAnd, ztOr, ztNot, zeAnd, zeOr, zeNot, zeIf, zaNil, zaCons, zTup, zLst, zCB, zCall, zCallK, zfdn, zDicK, zpNone, zpSome, zpsk, zSl, zChain, zchk, zSeq, zsNil, zBreak, zCont, zIf, zSet, zs_d, zs_l, zs_k, zs_b, zRet, zr_d, zr_l, zr_k, zr_b, zRetN, zDrop, zFor, ziE, zit_t, zit_l, zit_s, zR1, zr1, zR2, zr2, zgN, zAsg, zgT, zgsC, zgsN, zApp, zap0, zap, zLc, zclr, zclr2, zbck, zkeep_d, zkeep_n, zDP, zdp0, zdp, zky_i, zky_s, xSorted, xNe_bb, zPop, zpopk, zExt, zextk, zextk2, xUpper, xInW, xIxW, xLt_ss, xLe_ss, xGt_ss, xSl_t, xSl_l, xSl_s, zlNil, zlCons, zpin_d, zpin_l, zpin_k, zpin_b, zlkL0, zlkL1, zCallL, zimm_d, zimm_l, zimm_k, zimm_i, zimm_s, zimm_b, zimm_n, zimm_t, zimm_0, zimm_1, zSortSet, List.length_cons, List.length_nil, List.nil_append, List.append_nil, List.cons_append, true_and, and_true, reduceIte, if_true, if_false, decide_eq_true_eq, Bool.not_true, Bool.not_false, Bool.not_eq_true, Bool.false_eq_true, Nat.reduceAdd, Nat.zero_add, Bool.not_eq_false, decide_false, decide_true, Bool.not_eq_eq_eq_not, Bool.true_eq, decide_not, Bool.not_not, decide_eq_false_iff_not, eq_self, B_p_law_fits_0_eq]
    by_cases c : a.1 = x
    · have l : (a :: ps).lookup x = some a.2 := by
        rw [List.lookup_cons, show (x == a.1) = true from by rw [c]; simp]
      have hy := hy _ l
      subst e
      cases hs
      · simp only [Q.D, if_false, Bool.false_eq_true, xEq_ii, xEq_ss, xEq_nn, xEq_bb, xEq_ni, xEq_in, xNe_ii, xNe_ss, xLt_ii, xGt_ii, xLe_ii, xGe_ii, xAdd_ii, xAdd_ss, xAdd_tt, xAdd_ll, xSub_ii, xMul_ii, xDiv_ii, xMod_ii, xPow_ii, xNeg_i, xInt_i, xInt_b, xLen_t, xLen_l, xLen_s, xLen_d, xTuple_l, xTuple_t, xList_l, xList_t, xIx_t, xIx_l, xIx_s, xIx_di, xIx_ds, at0, at1, at2, at3, at4, at5, at6, at7, xIs_nn, xIs_i, xIs_s, xIs_b, xIs_t, xIs_l, xIs_d, xIsB_n, xIsB_i, xIsB_s, xIsB_b, yInt_i, yInt_b, yInt_n, yInt_s, yInt_t, yInt_l, yBool_i, yBool_b, yBool_n, yBool_s, yBool_t, yBool_l, yStr_i, yStr_b, yStr_n, yStr_s, yStr_t, yStr_l, yTup_i, yTup_b, yTup_n, yTup_s, yTup_t, yTup_l, yLst_i, yLst_n, yLst_s, yLst_t, yLst_l, xIn_l, xIn_it, xIn_il, xIn_sd, xLt_pp, xGt_pp, xLe_pp, xGe_pp, xII, z0, z1, z2, zput0, zput1, zC, zV, zv_d, zv_l, zv_k, zOp, zUn, zlk_d, zlk_l, zlk_k, zlk_b, zls_d, zls_l, zls_k, zfz_d, zfz_l, zfz_k, zfz_b, zfr_l, zfr_k, zfr_d, ztB, zbk, ztT, ztr_b, ztr_i, ztr_n, ztr_t, ztr_l, ztr_s, ztAnd, ztOr, ztNot, zeAnd, zeOr, zeNot, zeIf, zaNil, zaCons, zTup, zLst, zCB, zCall, zCallK, zfdn, zDicK, zpNone, zpSome, zpsk, zSl, zChain, zchk, zSeq, zsNil, zBreak, zCont, zIf, zSet, zs_d, zs_l, zs_k, zs_b, zRet, zr_d, zr_l, zr_k, zr_b, zRetN, zDrop, zFor, ziE, zit_t, zit_l, zit_s, zR1, zr1, zR2, zr2, zgN, zAsg, zgT, zgsC, zgsN, zApp, zap0, zap, zLc, zclr, zclr2, zbck, zkeep_d, zkeep_n, zDP, zdp0, zdp, zky_i, zky_s, xSorted, xNe_bb, zPop, zpopk, zExt, zextk, zextk2, xUpper, xInW, xIxW, xLt_ss, xLe_ss, xGt_ss, xSl_t, xSl_l, xSl_s, zlNil, zlCons, zpin_d, zpin_l, zpin_k, zpin_b, zlkL0, zlkL1, zCallL, zimm_d, zimm_l, zimm_k, zimm_i, zimm_s, zimm_b, zimm_n, zimm_t, zimm_0, zimm_1, zSortSet, List.length_cons, List.length_nil, List.nil_append, List.append_nil, List.cons_append, true_and, and_true, reduceIte, if_true, if_false, decide_eq_true_eq, Bool.not_true, Bool.not_false, Bool.not_eq_true, Bool.false_eq_true, Nat.reduceAdd, Nat.zero_add, Bool.not_eq_false, decide_false, decide_true, Bool.not_eq_eq_eq_not, Bool.true_eq, decide_not, Bool.not_not, decide_eq_false_iff_not, eq_self, c, ne_any_is, ne_any_has, ne_any_not, ne_any_and, ne_any_or, ne_is_any, ne_is_has, ne_is_not, ne_is_and, ne_is_or, ne_has_any, ne_has_is, ne_has_not, ne_has_and, ne_has_or, ne_not_any, ne_not_is, ne_not_has, ne_not_and, ne_not_or, ne_and_any, ne_and_is, ne_and_has, ne_and_not, ne_and_or, ne_or_any, ne_or_is, ne_or_has, ne_or_not, ne_or_and, xIn_strs]
        exact hy
      · simp only [Q.D, if_true, xEq_ii, xEq_ss, xEq_nn, xEq_bb, xEq_ni, xEq_in, xNe_ii, xNe_ss, xLt_ii, xGt_ii, xLe_ii, xGe_ii, xAdd_ii, xAdd_ss, xAdd_tt, xAdd_ll, xSub_ii, xMul_ii, xDiv_ii, xMod_ii, xPow_ii, xNeg_i, xInt_i, xInt_b, xLen_t, xLen_l, xLen_s, xLen_d, xTuple_l, xTuple_t, xList_l, xList_t, xIx_t, xIx_l, xIx_s, xIx_di, xIx_ds, at0, at1, at2, at3, at4, at5, at6, at7, xIs_nn, xIs_i, xIs_s, xIs_b, xIs_t, xIs_l, xIs_d, xIsB_n, xIsB_i, xIsB_s, xIsB_b, yInt_i, yInt_b, yInt_n, yInt_s, yInt_t, yInt_l, yBool_i, yBool_b, yBool_n, yBool_s, yBool_t, yBool_l, yStr_i, yStr_b, yStr_n, yStr_s, yStr_t, yStr_l, yTup_i, yTup_b, yTup_n, yTup_s, yTup_t, yTup_l, yLst_i, yLst_n, yLst_s, yLst_t, yLst_l, xIn_l, xIn_it, xIn_il, xIn_sd, xLt_pp, xGt_pp, xLe_pp, xGe_pp, xII, z0, z1, z2, zput0, zput1, zC, zV, zv_d, zv_l, zv_k, zOp, zUn, zlk_d, zlk_l, zlk_k, zlk_b, zls_d, zls_l, zls_k, zfz_d, zfz_l, zfz_k, zfz_b, zfr_l, zfr_k, zfr_d, ztB, zbk, ztT, ztr_b, ztr_i, ztr_n, ztr_t, ztr_l, ztr_s, ztAnd, ztOr, ztNot, zeAnd, zeOr, zeNot, zeIf, zaNil, zaCons, zTup, zLst, zCB, zCall, zCallK, zfdn, zDicK, zpNone, zpSome, zpsk, zSl, zChain, zchk, zSeq, zsNil, zBreak, zCont, zIf, zSet, zs_d, zs_l, zs_k, zs_b, zRet, zr_d, zr_l, zr_k, zr_b, zRetN, zDrop, zFor, ziE, zit_t, zit_l, zit_s, zR1, zr1, zR2, zr2, zgN, zAsg, zgT, zgsC, zgsN, zApp, zap0, zap, zLc, zclr, zclr2, zbck, zkeep_d, zkeep_n, zDP, zdp0, zdp, zky_i, zky_s, xSorted, xNe_bb, zPop, zpopk, zExt, zextk, zextk2, xUpper, xInW, xIxW, xLt_ss, xLe_ss, xGt_ss, xSl_t, xSl_l, xSl_s, zlNil, zlCons, zpin_d, zpin_l, zpin_k, zpin_b, zlkL0, zlkL1, zCallL, zimm_d, zimm_l, zimm_k, zimm_i, zimm_s, zimm_b, zimm_n, zimm_t, zimm_0, zimm_1, zSortSet, List.length_cons, List.length_nil, List.nil_append, List.append_nil, List.cons_append, true_and, and_true, reduceIte, if_true, if_false, decide_eq_true_eq, Bool.not_true, Bool.not_false, Bool.not_eq_true, Bool.false_eq_true, Nat.reduceAdd, Nat.zero_add, Bool.not_eq_false, decide_false, decide_true, Bool.not_eq_eq_eq_not, Bool.true_eq, decide_not, Bool.not_not, decide_eq_false_iff_not, eq_self, c, ne_any_is, ne_any_has, ne_any_not, ne_any_and, ne_any_or, ne_is_any, ne_is_has, ne_is_not, ne_is_and, ne_is_or, ne_has_any, ne_has_is, ne_has_not, ne_has_and, ne_has_or, ne_not_any, ne_not_is, ne_not_has, ne_not_and, ne_not_or, ne_and_any, ne_and_is, ne_and_has, ne_and_not, ne_and_or, ne_or_any, ne_or_is, ne_or_has, ne_or_not, ne_or_and]
        exact hy
    · have l : (a :: ps).lookup x = ps.lookup x := by
        rw [List.lookup_cons, show (x == a.1) = false from beq_eq_false_iff_ne.mpr fun z => c z.symm]
      rw [l] at hn hy
      have ih := ih (p := .d (.tup [.str a.1, .str a.2])) hn hy
      subst e
      cases hs
      · simp only [Q.D, if_false, Bool.false_eq_true, xEq_ii, xEq_ss, xEq_nn, xEq_bb, xEq_ni, xEq_in, xNe_ii, xNe_ss, xLt_ii, xGt_ii, xLe_ii, xGe_ii, xAdd_ii, xAdd_ss, xAdd_tt, xAdd_ll, xSub_ii, xMul_ii, xDiv_ii, xMod_ii, xPow_ii, xNeg_i, xInt_i, xInt_b, xLen_t, xLen_l, xLen_s, xLen_d, xTuple_l, xTuple_t, xList_l, xList_t, xIx_t, xIx_l, xIx_s, xIx_di, xIx_ds, at0, at1, at2, at3, at4, at5, at6, at7, xIs_nn, xIs_i, xIs_s, xIs_b, xIs_t, xIs_l, xIs_d, xIsB_n, xIsB_i, xIsB_s, xIsB_b, yInt_i, yInt_b, yInt_n, yInt_s, yInt_t, yInt_l, yBool_i, yBool_b, yBool_n, yBool_s, yBool_t, yBool_l, yStr_i, yStr_b, yStr_n, yStr_s, yStr_t, yStr_l, yTup_i, yTup_b, yTup_n, yTup_s, yTup_t, yTup_l, yLst_i, yLst_n, yLst_s, yLst_t, yLst_l, xIn_l, xIn_it, xIn_il, xIn_sd, xLt_pp, xGt_pp, xLe_pp, xGe_pp, xII, z0, z1, z2, zput0, zput1, zC, zV, zv_d, zv_l, zv_k, zOp, zUn, zlk_d, zlk_l, zlk_k, zlk_b, zls_d, zls_l, zls_k, zfz_d, zfz_l, zfz_k, zfz_b, zfr_l, zfr_k, zfr_d, ztB, zbk, ztT, ztr_b, ztr_i, ztr_n, ztr_t, ztr_l, ztr_s, ztAnd, ztOr, ztNot, zeAnd, zeOr, zeNot, zeIf, zaNil, zaCons, zTup, zLst, zCB, zCall, zCallK, zfdn, zDicK, zpNone, zpSome, zpsk, zSl, zChain, zchk, zSeq, zsNil, zBreak, zCont, zIf, zSet, zs_d, zs_l, zs_k, zs_b, zRet, zr_d, zr_l, zr_k, zr_b, zRetN, zDrop, zFor, ziE, zit_t, zit_l, zit_s, zR1, zr1, zR2, zr2, zgN, zAsg, zgT, zgsC, zgsN, zApp, zap0, zap, zLc, zclr, zclr2, zbck, zkeep_d, zkeep_n, zDP, zdp0, zdp, zky_i, zky_s, xSorted, xNe_bb, zPop, zpopk, zExt, zextk, zextk2, xUpper, xInW, xIxW, xLt_ss, xLe_ss, xGt_ss, xSl_t, xSl_l, xSl_s, zlNil, zlCons, zpin_d, zpin_l, zpin_k, zpin_b, zlkL0, zlkL1, zCallL, zimm_d, zimm_l, zimm_k, zimm_i, zimm_s, zimm_b, zimm_n, zimm_t, zimm_0, zimm_1, zSortSet, List.length_cons, List.length_nil, List.nil_append, List.append_nil, List.cons_append, true_and, and_true, reduceIte, if_true, if_false, decide_eq_true_eq, Bool.not_true, Bool.not_false, Bool.not_eq_true, Bool.false_eq_true, Nat.reduceAdd, Nat.zero_add, Bool.not_eq_false, decide_false, decide_true, Bool.not_eq_eq_eq_not, Bool.true_eq, decide_not, Bool.not_not, decide_eq_false_iff_not, eq_self, c] at ih ⊢
        exact ih
      · simp only [Q.D, if_true, xEq_ii, xEq_ss, xEq_nn, xEq_bb, xEq_ni, xEq_in, xNe_ii, xNe_ss, xLt_ii, xGt_ii, xLe_ii, xGe_ii, xAdd_ii, xAdd_ss, xAdd_tt, xAdd_ll, xSub_ii, xMul_ii, xDiv_ii, xMod_ii, xPow_ii, xNeg_i, xInt_i, xInt_b, xLen_t, xLen_l, xLen_s, xLen_d, xTuple_l, xTuple_t, xList_l, xList_t, xIx_t, xIx_l, xIx_s, xIx_di, xIx_ds, at0, at1, at2, at3, at4, at5, at6, at7, xIs_nn, xIs_i, xIs_s, xIs_b, xIs_t, xIs_l, xIs_d, xIsB_n, xIsB_i, xIsB_s, xIsB_b, yInt_i, yInt_b, yInt_n, yInt_s, yInt_t, yInt_l, yBool_i, yBool_b, yBool_n, yBool_s, yBool_t, yBool_l, yStr_i, yStr_b, yStr_n, yStr_s, yStr_t, yStr_l, yTup_i, yTup_b, yTup_n, yTup_s, yTup_t, yTup_l, yLst_i, yLst_n, yLst_s, yLst_t, yLst_l, xIn_l, xIn_it, xIn_il, xIn_sd, xLt_pp, xGt_pp, xLe_pp, xGe_pp, xII, z0, z1, z2, zput0, zput1, zC, zV, zv_d, zv_l, zv_k, zOp, zUn, zlk_d, zlk_l, zlk_k, zlk_b, zls_d, zls_l, zls_k, zfz_d, zfz_l, zfz_k, zfz_b, zfr_l, zfr_k, zfr_d, ztB, zbk, ztT, ztr_b, ztr_i, ztr_n, ztr_t, ztr_l, ztr_s, ztAnd, ztOr, ztNot, zeAnd, zeOr, zeNot, zeIf, zaNil, zaCons, zTup, zLst, zCB, zCall, zCallK, zfdn, zDicK, zpNone, zpSome, zpsk, zSl, zChain, zchk, zSeq, zsNil, zBreak, zCont, zIf, zSet, zs_d, zs_l, zs_k, zs_b, zRet, zr_d, zr_l, zr_k, zr_b, zRetN, zDrop, zFor, ziE, zit_t, zit_l, zit_s, zR1, zr1, zR2, zr2, zgN, zAsg, zgT, zgsC, zgsN, zApp, zap0, zap, zLc, zclr, zclr2, zbck, zkeep_d, zkeep_n, zDP, zdp0, zdp, zky_i, zky_s, xSorted, xNe_bb, zPop, zpopk, zExt, zextk, zextk2, xUpper, xInW, xIxW, xLt_ss, xLe_ss, xGt_ss, xSl_t, xSl_l, xSl_s, zlNil, zlCons, zpin_d, zpin_l, zpin_k, zpin_b, zlkL0, zlkL1, zCallL, zimm_d, zimm_l, zimm_k, zimm_i, zimm_s, zimm_b, zimm_n, zimm_t, zimm_0, zimm_1, zSortSet, List.length_cons, List.length_nil, List.nil_append, List.append_nil, List.cons_append, true_and, and_true, reduceIte, if_true, if_false, decide_eq_true_eq, Bool.not_true, Bool.not_false, Bool.not_eq_true, Bool.false_eq_true, Nat.reduceAdd, Nat.zero_add, Bool.not_eq_false, decide_false, decide_true, Bool.not_eq_eq_eq_not, Bool.true_eq, decide_not, Bool.not_not, decide_eq_false_iff_not, eq_self, c] at ih ⊢
        exact ih
theorem lawfits_ok {ps : List Pr} : ∀ (n : Nat) (q : Q), q.n < n → ∀ {R : Sl → Mu → Prop}, R (.d (.bl (q.ev ps))) μ → fn_p_law_fits n [.tup (ps.map prD), q.D] μ R
  | 0, q, hn, R, h => by omega
  | n + 1, .any, hn, R, h => by
    show Φ_p_law_fits (fn_p_law_fits n) _ ⟨[.d (.tup (ps.map prD)), .d Q.any.D, .no, .no], μ⟩
    simp only [Φ_p_law_fits, Q.D, xEq_ii, xEq_ss, xEq_nn, xEq_bb, xEq_ni, xEq_in, xNe_ii, xNe_ss, xLt_ii, xGt_ii, xLe_ii, xGe_ii, xAdd_ii, xAdd_ss, xAdd_tt, xAdd_ll, xSub_ii, xMul_ii, xDiv_ii, xMod_ii, xPow_ii, xNeg_i, xInt_i, xInt_b, xLen_t, xLen_l, xLen_s, xLen_d, xTuple_l, xTuple_t, xList_l, xList_t, xIx_t, xIx_l, xIx_s, xIx_di, xIx_ds, at0, at1, at2, at3, at4, at5, at6, at7, xIs_nn, xIs_i, xIs_s, xIs_b, xIs_t, xIs_l, xIs_d, xIsB_n, xIsB_i, xIsB_s, xIsB_b, yInt_i, yInt_b, yInt_n, yInt_s, yInt_t, yInt_l, yBool_i, yBool_b, yBool_n, yBool_s, yBool_t, yBool_l, yStr_i, yStr_b, yStr_n, yStr_s, yStr_t, yStr_l, yTup_i, yTup_b, yTup_n, yTup_s, yTup_t, yTup_l, yLst_i, yLst_n, yLst_s, yLst_t, yLst_l, xIn_l, xIn_it, xIn_il, xIn_sd, xLt_pp, xGt_pp, xLe_pp, xGe_pp, xII, z0, z1, z2, zput0, zput1, zC, zV, zv_d, zv_l, zv_k, zOp, zUn, zlk_d, zlk_l, zlk_k, zlk_b, zls_d, zls_l, zls_k, zfz_d, zfz_l, zfz_k, zfz_b, zfr_l, zfr_k, zfr_d, ztB, zbk, ztT, ztr_b, ztr_i, ztr_n, ztr_t, ztr_l, ztr_s, ztAnd, ztOr, ztNot, zeAnd, zeOr, zeNot, zeIf, zaNil, zaCons, zTup, zLst, zCB, zCall, zCallK, zfdn, zDicK, zpNone, zpSome, zpsk, zSl, zChain, zchk, zSeq, zsNil, zBreak, zCont, zIf, zSet, zs_d, zs_l, zs_k, zs_b, zRet, zr_d, zr_l, zr_k, zr_b, zRetN, zDrop, zFor, ziE, zit_t, zit_l, zit_s, zR1, zr1, zR2, zr2, zgN, zAsg, zgT, zgsC, zgsN, zApp, zap0, zap, zLc, zclr, zclr2, zbck, zkeep_d, zkeep_n, zDP, zdp0, zdp, zky_i, zky_s, xSorted, xNe_bb, zPop, zpopk, zExt, zextk, zextk2, xUpper, xInW, xIxW, xLt_ss, xLe_ss, xGt_ss, xSl_t, xSl_l, xSl_s, zlNil, zlCons, zpin_d, zpin_l, zpin_k, zpin_b, zlkL0, zlkL1, zCallL, zimm_d, zimm_l, zimm_k, zimm_i, zimm_s, zimm_b, zimm_n, zimm_t, zimm_0, zimm_1, zSortSet, List.length_cons, List.length_nil, List.nil_append, List.append_nil, List.cons_append, true_and, and_true, reduceIte, if_true, if_false, decide_eq_true_eq, Bool.not_true, Bool.not_false, Bool.not_eq_true, Bool.false_eq_true, Nat.reduceAdd, Nat.zero_add, Bool.not_eq_false, decide_false, decide_true, Bool.not_eq_eq_eq_not, Bool.true_eq, decide_not, Bool.not_not, decide_eq_false_iff_not, eq_self, ne_any_is, ne_any_has, ne_any_not, ne_any_and, ne_any_or, ne_is_any, ne_is_has, ne_is_not, ne_is_and, ne_is_or, ne_has_any, ne_has_is, ne_has_not, ne_has_and, ne_has_or, ne_not_any, ne_not_is, ne_not_has, ne_not_and, ne_not_or, ne_and_any, ne_and_is, ne_and_has, ne_and_not, ne_and_or, ne_or_any, ne_or_is, ne_or_has, ne_or_not, ne_or_and]
    exact h
  | n + 1, .has x, hn, R, h => by
    show Φ_p_law_fits (fn_p_law_fits n) _ ⟨[.d (.tup (ps.map prD)), .d (Q.has x).D, .no, .no], μ⟩
    simp only [Φ_p_law_fits, Q.D, xEq_ii, xEq_ss, xEq_nn, xEq_bb, xEq_ni, xEq_in, xNe_ii, xNe_ss, xLt_ii, xGt_ii, xLe_ii, xGe_ii, xAdd_ii, xAdd_ss, xAdd_tt, xAdd_ll, xSub_ii, xMul_ii, xDiv_ii, xMod_ii, xPow_ii, xNeg_i, xInt_i, xInt_b, xLen_t, xLen_l, xLen_s, xLen_d, xTuple_l, xTuple_t, xList_l, xList_t, xIx_t, xIx_l, xIx_s, xIx_di, xIx_ds, at0, at1, at2, at3, at4, at5, at6, at7, xIs_nn, xIs_i, xIs_s, xIs_b, xIs_t, xIs_l, xIs_d, xIsB_n, xIsB_i, xIsB_s, xIsB_b, yInt_i, yInt_b, yInt_n, yInt_s, yInt_t, yInt_l, yBool_i, yBool_b, yBool_n, yBool_s, yBool_t, yBool_l, yStr_i, yStr_b, yStr_n, yStr_s, yStr_t, yStr_l, yTup_i, yTup_b, yTup_n, yTup_s, yTup_t, yTup_l, yLst_i, yLst_n, yLst_s, yLst_t, yLst_l, xIn_l, xIn_it, xIn_il, xIn_sd, xLt_pp, xGt_pp, xLe_pp, xGe_pp, xII, z0, z1, z2, zput0, zput1, zC, zV, zv_d, zv_l, zv_k, zOp, zUn, zlk_d, zlk_l, zlk_k, zlk_b, zls_d, zls_l, zls_k, zfz_d, zfz_l, zfz_k, zfz_b, zfr_l, zfr_k, zfr_d, ztB, zbk, ztT, ztr_b, ztr_i, ztr_n, ztr_t, ztr_l, ztr_s, ztAnd, ztOr, ztNot, zeAnd, zeOr, zeNot, zeIf, zaNil, zaCons, zTup, zLst, zCB, zCall, zCallK, zfdn, zDicK, zpNone, zpSome, zpsk, zSl, zChain, zchk, zSeq, zsNil, zBreak, zCont, zIf, zSet, zs_d, zs_l, zs_k, zs_b, zRet, zr_d, zr_l, zr_k, zr_b, zRetN, zDrop, zFor, ziE, zit_t, zit_l, zit_s, zR1, zr1, zR2, zr2, zgN, zAsg, zgT, zgsC, zgsN, zApp, zap0, zap, zLc, zclr, zclr2, zbck, zkeep_d, zkeep_n, zDP, zdp0, zdp, zky_i, zky_s, xSorted, xNe_bb, zPop, zpopk, zExt, zextk, zextk2, xUpper, xInW, xIxW, xLt_ss, xLe_ss, xGt_ss, xSl_t, xSl_l, xSl_s, zlNil, zlCons, zpin_d, zpin_l, zpin_k, zpin_b, zlkL0, zlkL1, zCallL, zimm_d, zimm_l, zimm_k, zimm_i, zimm_s, zimm_b, zimm_n, zimm_t, zimm_0, zimm_1, zSortSet, List.length_cons, List.length_nil, List.nil_append, List.append_nil, List.cons_append, true_and, and_true, reduceIte, if_true, if_false, decide_eq_true_eq, Bool.not_true, Bool.not_false, Bool.not_eq_true, Bool.false_eq_true, Nat.reduceAdd, Nat.zero_add, Bool.not_eq_false, decide_false, decide_true, Bool.not_eq_eq_eq_not, Bool.true_eq, decide_not, Bool.not_not, decide_eq_false_iff_not, eq_self, ne_any_is, ne_any_has, ne_any_not, ne_any_and, ne_any_or, ne_is_any, ne_is_has, ne_is_not, ne_is_and, ne_is_or, ne_has_any, ne_has_is, ne_has_not, ne_has_and, ne_has_or, ne_not_any, ne_not_is, ne_not_has, ne_not_and, ne_not_or, ne_and_any, ne_and_is, ne_and_has, ne_and_not, ne_and_or, ne_or_any, ne_or_is, ne_or_has, ne_or_not, ne_or_and]
    refine lawfits_loop (x := x) (vs := []) (hs := true) rfl (fun e y => ?_) fun v e => ?_
    · simp only [xEq_ii, xEq_ss, xEq_nn, xEq_bb, xEq_ni, xEq_in, xNe_ii, xNe_ss, xLt_ii, xGt_ii, xLe_ii, xGe_ii, xAdd_ii, xAdd_ss, xAdd_tt, xAdd_ll, xSub_ii, xMul_ii, xDiv_ii, xMod_ii, xPow_ii, xNeg_i, xInt_i, xInt_b, xLen_t, xLen_l, xLen_s, xLen_d, xTuple_l, xTuple_t, xList_l, xList_t, xIx_t, xIx_l, xIx_s, xIx_di, xIx_ds, at0, at1, at2, at3, at4, at5, at6, at7, xIs_nn, xIs_i, xIs_s, xIs_b, xIs_t, xIs_l, xIs_d, xIsB_n, xIsB_i, xIsB_s, xIsB_b, yInt_i, yInt_b, yInt_n, yInt_s, yInt_t, yInt_l, yBool_i, yBool_b, yBool_n, yBool_s, yBool_t, yBool_l, yStr_i, yStr_b, yStr_n, yStr_s, yStr_t, yStr_l, yTup_i, yTup_b, yTup_n, yTup_s, yTup_t, yTup_l, yLst_i, yLst_n, yLst_s, yLst_t, yLst_l, xIn_l, xIn_it, xIn_il, xIn_sd, xLt_pp, xGt_pp, xLe_pp, xGe_pp, xII, z0, z1, z2, zput0, zput1, zC, zV, zv_d, zv_l, zv_k, zOp, zUn, zlk_d, zlk_l, zlk_k, zlk_b, zls_d, zls_l, zls_k, zfz_d, zfz_l, zfz_k, zfz_b, zfr_l, zfr_k, zfr_d, ztB, zbk, ztT, ztr_b, ztr_i, ztr_n, ztr_t, ztr_l, ztr_s, ztAnd, ztOr, ztNot, zeAnd, zeOr, zeNot, zeIf, zaNil, zaCons, zTup, zLst, zCB, zCall, zCallK, zfdn, zDicK, zpNone, zpSome, zpsk, zSl, zChain, zchk, zSeq, zsNil, zBreak, zCont, zIf, zSet, zs_d, zs_l, zs_k, zs_b, zRet, zr_d, zr_l, zr_k, zr_b, zRetN, zDrop, zFor, ziE, zit_t, zit_l, zit_s, zR1, zr1, zR2, zr2, zgN, zAsg, zgT, zgsC, zgsN, zApp, zap0, zap, zLc, zclr, zclr2, zbck, zkeep_d, zkeep_n, zDP, zdp0, zdp, zky_i, zky_s, xSorted, xNe_bb, zPop, zpopk, zExt, zextk, zextk2, xUpper, xInW, xIxW, xLt_ss, xLe_ss, xGt_ss, xSl_t, xSl_l, xSl_s, zlNil, zlCons, zpin_d, zpin_l, zpin_k, zpin_b, zlkL0, zlkL1, zCallL, zimm_d, zimm_l, zimm_k, zimm_i, zimm_s, zimm_b, zimm_n, zimm_t, zimm_0, zimm_1, zSortSet, List.length_cons, List.length_nil, List.nil_append, List.append_nil, List.cons_append, true_and, and_true, reduceIte, if_true, if_false, decide_eq_true_eq, Bool.not_true, Bool.not_false, Bool.not_eq_true, Bool.false_eq_true, Nat.reduceAdd, Nat.zero_add, Bool.not_eq_false, decide_false, decide_true, Bool.not_eq_eq_eq_not, Bool.true_eq, decide_not, Bool.not_not, decide_eq_false_iff_not, eq_self]
      unfold Q.ev at h
      rw [e] at h
      exact h
    · unfold Q.ev at h
      rw [e] at h
      exact h
  | n + 1, .is x vs, hn, R, h => by
    show Φ_p_law_fits (fn_p_law_fits n) _ ⟨[.d (.tup (ps.map prD)), .d (Q.is x vs).D, .no, .no], μ⟩
    simp only [Φ_p_law_fits, Q.D, xEq_ii, xEq_ss, xEq_nn, xEq_bb, xEq_ni, xEq_in, xNe_ii, xNe_ss, xLt_ii, xGt_ii, xLe_ii, xGe_ii, xAdd_ii, xAdd_ss, xAdd_tt, xAdd_ll, xSub_ii, xMul_ii, xDiv_ii, xMod_ii, xPow_ii, xNeg_i, xInt_i, xInt_b, xLen_t, xLen_l, xLen_s, xLen_d, xTuple_l, xTuple_t, xList_l, xList_t, xIx_t, xIx_l, xIx_s, xIx_di, xIx_ds, at0, at1, at2, at3, at4, at5, at6, at7, xIs_nn, xIs_i, xIs_s, xIs_b, xIs_t, xIs_l, xIs_d, xIsB_n, xIsB_i, xIsB_s, xIsB_b, yInt_i, yInt_b, yInt_n, yInt_s, yInt_t, yInt_l, yBool_i, yBool_b, yBool_n, yBool_s, yBool_t, yBool_l, yStr_i, yStr_b, yStr_n, yStr_s, yStr_t, yStr_l, yTup_i, yTup_b, yTup_n, yTup_s, yTup_t, yTup_l, yLst_i, yLst_n, yLst_s, yLst_t, yLst_l, xIn_l, xIn_it, xIn_il, xIn_sd, xLt_pp, xGt_pp, xLe_pp, xGe_pp, xII, z0, z1, z2, zput0, zput1, zC, zV, zv_d, zv_l, zv_k, zOp, zUn, zlk_d, zlk_l, zlk_k, zlk_b, zls_d, zls_l, zls_k, zfz_d, zfz_l, zfz_k, zfz_b, zfr_l, zfr_k, zfr_d, ztB, zbk, ztT, ztr_b, ztr_i, ztr_n, ztr_t, ztr_l, ztr_s, ztAnd, ztOr, ztNot, zeAnd, zeOr, zeNot, zeIf, zaNil, zaCons, zTup, zLst, zCB, zCall, zCallK, zfdn, zDicK, zpNone, zpSome, zpsk, zSl, zChain, zchk, zSeq, zsNil, zBreak, zCont, zIf, zSet, zs_d, zs_l, zs_k, zs_b, zRet, zr_d, zr_l, zr_k, zr_b, zRetN, zDrop, zFor, ziE, zit_t, zit_l, zit_s, zR1, zr1, zR2, zr2, zgN, zAsg, zgT, zgsC, zgsN, zApp, zap0, zap, zLc, zclr, zclr2, zbck, zkeep_d, zkeep_n, zDP, zdp0, zdp, zky_i, zky_s, xSorted, xNe_bb, zPop, zpopk, zExt, zextk, zextk2, xUpper, xInW, xIxW, xLt_ss, xLe_ss, xGt_ss, xSl_t, xSl_l, xSl_s, zlNil, zlCons, zpin_d, zpin_l, zpin_k, zpin_b, zlkL0, zlkL1, zCallL, zimm_d, zimm_l, zimm_k, zimm_i, zimm_s, zimm_b, zimm_n, zimm_t, zimm_0, zimm_1, zSortSet, List.length_cons, List.length_nil, List.nil_append, List.append_nil, List.cons_append, true_and, and_true, reduceIte, if_true, if_false, decide_eq_true_eq, Bool.not_true, Bool.not_false, Bool.not_eq_true, Bool.false_eq_true, Nat.reduceAdd, Nat.zero_add, Bool.not_eq_false, decide_false, decide_true, Bool.not_eq_eq_eq_not, Bool.true_eq, decide_not, Bool.not_not, decide_eq_false_iff_not, eq_self, ne_any_is, ne_any_has, ne_any_not, ne_any_and, ne_any_or, ne_is_any, ne_is_has, ne_is_not, ne_is_and, ne_is_or, ne_has_any, ne_has_is, ne_has_not, ne_has_and, ne_has_or, ne_not_any, ne_not_is, ne_not_has, ne_not_and, ne_not_or, ne_and_any, ne_and_is, ne_and_has, ne_and_not, ne_and_or, ne_or_any, ne_or_is, ne_or_has, ne_or_not, ne_or_and]
    refine lawfits_loop (x := x) (vs := vs) (hs := false) rfl (fun e y => ?_) fun v e => ?_
    · simp only [xEq_ii, xEq_ss, xEq_nn, xEq_bb, xEq_ni, xEq_in, xNe_ii, xNe_ss, xLt_ii, xGt_ii, xLe_ii, xGe_ii, xAdd_ii, xAdd_ss, xAdd_tt, xAdd_ll, xSub_ii, xMul_ii, xDiv_ii, xMod_ii, xPow_ii, xNeg_i, xInt_i, xInt_b, xLen_t, xLen_l, xLen_s, xLen_d, xTuple_l, xTuple_t, xList_l, xList_t, xIx_t, xIx_l, xIx_s, xIx_di, xIx_ds, at0, at1, at2, at3, at4, at5, at6, at7, xIs_nn, xIs_i, xIs_s, xIs_b, xIs_t, xIs_l, xIs_d, xIsB_n, xIsB_i, xIsB_s, xIsB_b, yInt_i, yInt_b, yInt_n, yInt_s, yInt_t, yInt_l, yBool_i, yBool_b, yBool_n, yBool_s, yBool_t, yBool_l, yStr_i, yStr_b, yStr_n, yStr_s, yStr_t, yStr_l, yTup_i, yTup_b, yTup_n, yTup_s, yTup_t, yTup_l, yLst_i, yLst_n, yLst_s, yLst_t, yLst_l, xIn_l, xIn_it, xIn_il, xIn_sd, xLt_pp, xGt_pp, xLe_pp, xGe_pp, xII, z0, z1, z2, zput0, zput1, zC, zV, zv_d, zv_l, zv_k, zOp, zUn, zlk_d, zlk_l, zlk_k, zlk_b, zls_d, zls_l, zls_k, zfz_d, zfz_l, zfz_k, zfz_b, zfr_l, zfr_k, zfr_d, ztB, zbk, ztT, ztr_b, ztr_i, ztr_n, ztr_t, ztr_l, ztr_s, ztAnd, ztOr, ztNot, zeAnd, zeOr, zeNot, zeIf, zaNil, zaCons, zTup, zLst, zCB, zCall, zCallK, zfdn, zDicK, zpNone, zpSome, zpsk, zSl, zChain, zchk, zSeq, zsNil, zBreak, zCont, zIf, zSet, zs_d, zs_l, zs_k, zs_b, zRet, zr_d, zr_l, zr_k, zr_b, zRetN, zDrop, zFor, ziE, zit_t, zit_l, zit_s, zR1, zr1, zR2, zr2, zgN, zAsg, zgT, zgsC, zgsN, zApp, zap0, zap, zLc, zclr, zclr2, zbck, zkeep_d, zkeep_n, zDP, zdp0, zdp, zky_i, zky_s, xSorted, xNe_bb, zPop, zpopk, zExt, zextk, zextk2, xUpper, xInW, xIxW, xLt_ss, xLe_ss, xGt_ss, xSl_t, xSl_l, xSl_s, zlNil, zlCons, zpin_d, zpin_l, zpin_k, zpin_b, zlkL0, zlkL1, zCallL, zimm_d, zimm_l, zimm_k, zimm_i, zimm_s, zimm_b, zimm_n, zimm_t, zimm_0, zimm_1, zSortSet, List.length_cons, List.length_nil, List.nil_append, List.append_nil, List.cons_append, true_and, and_true, reduceIte, if_true, if_false, decide_eq_true_eq, Bool.not_true, Bool.not_false, Bool.not_eq_true, Bool.false_eq_true, Nat.reduceAdd, Nat.zero_add, Bool.not_eq_false, decide_false, decide_true, Bool.not_eq_eq_eq_not, Bool.true_eq, decide_not, Bool.not_not, decide_eq_false_iff_not, eq_self]
      unfold Q.ev at h
      rw [e] at h
      exact h
    · unfold Q.ev at h
      rw [e] at h
      exact h
  | n + 1, .no q, hn, R, h => by
    have ih := fun R h => lawfits_ok (ps := ps) n q (by simp only [Q.n] at hn; omega) (R := R) h
    show Φ_p_law_fits (fn_p_law_fits n) _ ⟨[.d (.tup (ps.map prD)), .d (Q.no q).D, .no, .no], μ⟩
    simp only [Φ_p_law_fits, Q.D, xEq_ii, xEq_ss, xEq_nn, xEq_bb, xEq_ni, xEq_in, xNe_ii, xNe_ss, xLt_ii, xGt_ii, xLe_ii, xGe_ii, xAdd_ii, xAdd_ss, xAdd_tt, xAdd_ll, xSub_ii, xMul_ii, xDiv_ii, xMod_ii, xPow_ii, xNeg_i, xInt_i, xInt_b, xLen_t, xLen_l, xLen_s, xLen_d, xTuple_l, xTuple_t, xList_l, xList_t, xIx_t, xIx_l, xIx_s, xIx_di, xIx_ds, at0, at1, at2, at3, at4, at5, at6, at7, xIs_nn, xIs_i, xIs_s, xIs_b, xIs_t, xIs_l, xIs_d, xIsB_n, xIsB_i, xIsB_s, xIsB_b, yInt_i, yInt_b, yInt_n, yInt_s, yInt_t, yInt_l, yBool_i, yBool_b, yBool_n, yBool_s, yBool_t, yBool_l, yStr_i, yStr_b, yStr_n, yStr_s, yStr_t, yStr_l, yTup_i, yTup_b, yTup_n, yTup_s, yTup_t, yTup_l, yLst_i, yLst_n, yLst_s, yLst_t, yLst_l, xIn_l, xIn_it, xIn_il, xIn_sd, xLt_pp, xGt_pp, xLe_pp, xGe_pp, xII, z0, z1, z2, zput0, zput1, zC, zV, zv_d, zv_l, zv_k, zOp, zUn, zlk_d, zlk_l, zlk_k, zlk_b, zls_d, zls_l, zls_k, zfz_d, zfz_l, zfz_k, zfz_b, zfr_l, zfr_k, zfr_d, ztB, zbk, ztT, ztr_b, ztr_i, ztr_n, ztr_t, ztr_l, ztr_s, ztAnd, ztOr, ztNot, zeAnd, zeOr, zeNot, zeIf, zaNil, zaCons, zTup, zLst, zCB, zCall, zCallK, zfdn, zDicK, zpNone, zpSome, zpsk, zSl, zChain, zchk, zSeq, zsNil, zBreak, zCont, zIf, zSet, zs_d, zs_l, zs_k, zs_b, zRet, zr_d, zr_l, zr_k, zr_b, zRetN, zDrop, zFor, ziE, zit_t, zit_l, zit_s, zR1, zr1, zR2, zr2, zgN, zAsg, zgT, zgsC, zgsN, zApp, zap0, zap, zLc, zclr, zclr2, zbck, zkeep_d, zkeep_n, zDP, zdp0, zdp, zky_i, zky_s, xSorted, xNe_bb, zPop, zpopk, zExt, zextk, zextk2, xUpper, xInW, xIxW, xLt_ss, xLe_ss, xGt_ss, xSl_t, xSl_l, xSl_s, zlNil, zlCons, zpin_d, zpin_l, zpin_k, zpin_b, zlkL0, zlkL1, zCallL, zimm_d, zimm_l, zimm_k, zimm_i, zimm_s, zimm_b, zimm_n, zimm_t, zimm_0, zimm_1, zSortSet, List.length_cons, List.length_nil, List.nil_append, List.append_nil, List.cons_append, true_and, and_true, reduceIte, if_true, if_false, decide_eq_true_eq, Bool.not_true, Bool.not_false, Bool.not_eq_true, Bool.false_eq_true, Nat.reduceAdd, Nat.zero_add, Bool.not_eq_false, decide_false, decide_true, Bool.not_eq_eq_eq_not, Bool.true_eq, decide_not, Bool.not_not, decide_eq_false_iff_not, eq_self, ne_any_is, ne_any_has, ne_any_not, ne_any_and, ne_any_or, ne_is_any, ne_is_has, ne_is_not, ne_is_and, ne_is_or, ne_has_any, ne_has_is, ne_has_not, ne_has_and, ne_has_or, ne_not_any, ne_not_is, ne_not_has, ne_not_and, ne_not_or, ne_and_any, ne_and_is, ne_and_has, ne_and_not, ne_and_or, ne_or_any, ne_or_is, ne_or_has, ne_or_not, ne_or_and]
    refine ih _ ?_
    simp only [xEq_ii, xEq_ss, xEq_nn, xEq_bb, xEq_ni, xEq_in, xNe_ii, xNe_ss, xLt_ii, xGt_ii, xLe_ii, xGe_ii, xAdd_ii, xAdd_ss, xAdd_tt, xAdd_ll, xSub_ii, xMul_ii, xDiv_ii, xMod_ii, xPow_ii, xNeg_i, xInt_i, xInt_b, xLen_t, xLen_l, xLen_s, xLen_d, xTuple_l, xTuple_t, xList_l, xList_t, xIx_t, xIx_l, xIx_s, xIx_di, xIx_ds, at0, at1, at2, at3, at4, at5, at6, at7, xIs_nn, xIs_i, xIs_s, xIs_b, xIs_t, xIs_l, xIs_d, xIsB_n, xIsB_i, xIsB_s, xIsB_b, yInt_i, yInt_b, yInt_n, yInt_s, yInt_t, yInt_l, yBool_i, yBool_b, yBool_n, yBool_s, yBool_t, yBool_l, yStr_i, yStr_b, yStr_n, yStr_s, yStr_t, yStr_l, yTup_i, yTup_b, yTup_n, yTup_s, yTup_t, yTup_l, yLst_i, yLst_n, yLst_s, yLst_t, yLst_l, xIn_l, xIn_it, xIn_il, xIn_sd, xLt_pp, xGt_pp, xLe_pp, xGe_pp, xII, z0, z1, z2, zput0, zput1, zC, zV, zv_d, zv_l, zv_k, zOp, zUn, zlk_d, zlk_l, zlk_k, zlk_b, zls_d, zls_l, zls_k, zfz_d, zfz_l, zfz_k, zfz_b, zfr_l, zfr_k, zfr_d, ztB, zbk, ztT, ztr_b, ztr_i, ztr_n, ztr_t, ztr_l, ztr_s, ztAnd, ztOr, ztNot, zeAnd, zeOr, zeNot, zeIf, zaNil, zaCons, zTup, zLst, zCB, zCall, zCallK, zfdn, zDicK, zpNone, zpSome, zpsk, zSl, zChain, zchk, zSeq, zsNil, zBreak, zCont, zIf, zSet, zs_d, zs_l, zs_k, zs_b, zRet, zr_d, zr_l, zr_k, zr_b, zRetN, zDrop, zFor, ziE, zit_t, zit_l, zit_s, zR1, zr1, zR2, zr2, zgN, zAsg, zgT, zgsC, zgsN, zApp, zap0, zap, zLc, zclr, zclr2, zbck, zkeep_d, zkeep_n, zDP, zdp0, zdp, zky_i, zky_s, xSorted, xNe_bb, zPop, zpopk, zExt, zextk, zextk2, xUpper, xInW, xIxW, xLt_ss, xLe_ss, xGt_ss, xSl_t, xSl_l, xSl_s, zlNil, zlCons, zpin_d, zpin_l, zpin_k, zpin_b, zlkL0, zlkL1, zCallL, zimm_d, zimm_l, zimm_k, zimm_i, zimm_s, zimm_b, zimm_n, zimm_t, zimm_0, zimm_1, zSortSet, List.length_cons, List.length_nil, List.nil_append, List.append_nil, List.cons_append, true_and, and_true, reduceIte, if_true, if_false, decide_eq_true_eq, Bool.not_true, Bool.not_false, Bool.not_eq_true, Bool.false_eq_true, Nat.reduceAdd, Nat.zero_add, Bool.not_eq_false, decide_false, decide_true, Bool.not_eq_eq_eq_not, Bool.true_eq, decide_not, Bool.not_not, decide_eq_false_iff_not, eq_self]
    exact h
  | n + 1, .bo a p q, hn, R, h => by
    have i1 := fun R h => lawfits_ok (ps := ps) n p (by simp only [Q.n] at hn; omega) (R := R) h
    have i2 := fun R h => lawfits_ok (ps := ps) n q (by simp only [Q.n] at hn; omega) (R := R) h
    show Φ_p_law_fits (fn_p_law_fits n) _ ⟨[.d (.tup (ps.map prD)), .d (Q.bo a p q).D, .no, .no], μ⟩
    unfold Q.ev at h
    cases a with
    | true =>
      simp only [Φ_p_law_fits, Q.D, xEq_ii, xEq_ss, xEq_nn, xEq_bb, xEq_ni, xEq_in, xNe_ii, xNe_ss, xLt_ii, xGt_ii, xLe_ii, xGe_ii, xAdd_ii, xAdd_ss, xAdd_tt, xAdd_ll, xSub_ii, xMul_ii, xDiv_ii, xMod_ii, xPow_ii, xNeg_i, xInt_i, xInt_b, xLen_t, xLen_l, xLen_s, xLen_d, xTuple_l, xTuple_t, xList_l, xList_t, xIx_t, xIx_l, xIx_s, xIx_di, xIx_ds, at0, at1, at2, at3, at4, at5, at6, at7, xIs_nn, xIs_i, xIs_s, xIs_b, xIs_t, xIs_l, xIs_d, xIsB_n, xIsB_i, xIsB_s, xIsB_b, yInt_i, yInt_b, yInt_n, yInt_s, yInt_t, yInt_l, yBool_i, yBool_b, yBool_n, yBool_s, yBool_t, yBool_l, yStr_i, yStr_b, yStr_n, yStr_s, yStr_t, yStr_l, yTup_i, yTup_b, yTup_n, yTup_s, yTup_t, yTup_l, yLst_i, yLst_n, yLst_s, yLst_t, yLst_l, xIn_l, xIn_it, xIn_il, xIn_sd, xLt_pp, xGt_pp, xLe_pp, xGe_pp, xII, z0, z1, z2, zput0, zput1, zC, zV, zv_d, zv_l, zv_k, zOp, zUn, zlk_d, zlk_l, zlk_k, zlk_b, zls_d, zls_l, zls_k, zfz_d, zfz_l, zfz_k, zfz_b, zfr_l, zfr_k, zfr_d, ztB, zbk, ztT, ztr_b, ztr_i, ztr_n, ztr_t, ztr_l, ztr_s, ztAnd, ztOr, ztNot, zeAnd, zeOr, zeNot, zeIf, zaNil, zaCons, zTup, zLst, zCB, zCall, zCallK, zfdn, zDicK, zpNone, zpSome, zpsk, zSl, zChain, zchk, zSeq, zsNil, zBreak, zCont, zIf, zSet, zs_d, zs_l, zs_k, zs_b, zRet, zr_d, zr_l, zr_k, zr_b, zRetN, zDrop, zFor, ziE, zit_t, zit_l, zit_s, zR1, zr1, zR2, zr2, zgN, zAsg, zgT, zgsC, zgsN, zApp, zap0, zap, zLc, zclr, zclr2, zbck, zkeep_d, zkeep_n, zDP, zdp0, zdp, zky_i, zky_s, xSorted, xNe_bb, zPop, zpopk, zExt, zextk, zextk2, xUpper, xInW, xIxW, xLt_ss, xLe_ss, xGt_ss, xSl_t, xSl_l, xSl_s, zlNil, zlCons, zpin_d, zpin_l, zpin_k, zpin_b, zlkL0, zlkL1, zCallL, zimm_d, zimm_l, zimm_k, zimm_i, zimm_s, zimm_b, zimm_n, zimm_t, zimm_0, zimm_1, zSortSet, List.length_cons, List.length_nil, List.nil_append, List.append_nil, List.cons_append, true_and, and_true, reduceIte, if_true, if_false, decide_eq_true_eq, Bool.not_true, Bool.not_false, Bool.not_eq_true, Bool.false_eq_true, Nat.reduceAdd, Nat.zero_add, Bool.not_eq_false, decide_false, decide_true, Bool.not_eq_eq_eq_not, Bool.true_eq, decide_not, Bool.not_not, decide_eq_false_iff_not, eq_self, ne_any_is, ne_any_has, ne_any_not, ne_any_and, ne_any_or, ne_is_any, ne_is_has, ne_is_not, ne_is_and, ne_is_or, ne_has_any, ne_has_is, ne_has_not, ne_has_and, ne_has_or, ne_not_any, ne_not_is, ne_not_has, ne_not_and, ne_not_or, ne_and_any, ne_and_is, ne_and_has, ne_and_not, ne_and_or, ne_or_any, ne_or_is, ne_or_has, ne_or_not, ne_or_and]
      refine i1 _ ?_
      simp only [if_true] at h
      cases e : p.ev ps
      · rw [e] at h; simp only [xEq_ii, xEq_ss, xEq_nn, xEq_bb, xEq_ni, xEq_in, xNe_ii, xNe_ss, xLt_ii, xGt_ii, xLe_ii, xGe_ii, xAdd_ii, xAdd_ss, xAdd_tt, xAdd_ll, xSub_ii, xMul_ii, xDiv_ii, xMod_ii, xPow_ii, xNeg_i, xInt_i, xInt_b, xLen_t, xLen_l, xLen_s, xLen_d, xTuple_l, xTuple_t, xList_l, xList_t, xIx_t, xIx_l, xIx_s, xIx_di, xIx_ds, at0, at1, at2, at3, at4, at5, at6, at7, xIs_nn, xIs_i, xIs_s, xIs_b, xIs_t, xIs_l, xIs_d, xIsB_n, xIsB_i, xIsB_s, xIsB_b, yInt_i, yInt_b, yInt_n, yInt_s, yInt_t, yInt_l, yBool_i, yBool_b, yBool_n, yBool_s, yBool_t, yBool_l, yStr_i, yStr_b, yStr_n, yStr_s, yStr_t, yStr_l, yTup_i, yTup_b, yTup_n, yTup_s, yTup_t, yTup_l, yLst_i, yLst_n, yLst_s, yLst_t, yLst_l, xIn_l, xIn_it, xIn_il, xIn_sd, xLt_pp, xGt_pp, xLe_pp, xGe_pp, xII, z0, z1, z2, zput0, zput1, zC, zV, zv_d, zv_l, zv_k, zOp, zUn, zlk_d, zlk_l, zlk_k, zlk_b, zls_d, zls_l, zls_k, zfz_d, zfz_l, zfz_k, zfz_b, zfr_l, zfr_k, zfr_d, ztB, zbk, ztT, ztr_b, ztr_i, ztr_n, ztr_t, ztr_l, ztr_s, ztAnd, ztOr, ztNot, zeAnd, zeOr, zeNot, zeIf, zaNil, zaCons, zTup, zLst, zCB, zCall, zCallK, zfdn, zDicK, zpNone, zpSome, zpsk, zSl, zChain, zchk, zSeq, zsNil, zBreak, zCont, zIf, zSet, zs_d, zs_l, zs_k, zs_b, zRet, zr_d, zr_l, zr_k, zr_b, zRetN, zDrop, zFor, ziE, zit_t, zit_l, zit_s, zR1, zr1, zR2, zr2, zgN, zAsg, zgT, zgsC, zgsN, zApp, zap0, zap, zLc, zclr, zclr2, zbck, zkeep_d, zkeep_n, zDP, zdp0, zdp, zky_i, zky_s, xSorted, xNe_bb, zPop, zpopk, zExt, zextk, zextk2, xUpper, xInW, xIxW, xLt_ss, xLe_ss, xGt_ss, xSl_t, xSl_l, xSl_s, zlNil, zlCons, zpin_d, zpin_l, zpin_k, zpin_b, zlkL0, zlkL1, zCallL, zimm_d, zimm_l, zimm_k, zimm_i, zimm_s, zimm_b, zimm_n, zimm_t, zimm_0, zimm_1, zSortSet, List.length_cons, List.length_nil, List.nil_append, List.append_nil, List.cons_append, true_and, and_true, reduceIte, if_true, if_false, decide_eq_true_eq, Bool.not_true, Bool.not_false, Bool.not_eq_true, Bool.false_eq_true, Nat.reduceAdd, Nat.zero_add, Bool.not_eq_false, decide_false, decide_true, Bool.not_eq_eq_eq_not, Bool.true_eq, decide_not, Bool.not_not, decide_eq_false_iff_not, eq_self]; exact h
      · rw [e] at h
        simp only [xEq_ii, xEq_ss, xEq_nn, xEq_bb, xEq_ni, xEq_in, xNe_ii, xNe_ss, xLt_ii, xGt_ii, xLe_ii, xGe_ii, xAdd_ii, xAdd_ss, xAdd_tt, xAdd_ll, xSub_ii, xMul_ii, xDiv_ii, xMod_ii, xPow_ii, xNeg_i, xInt_i, xInt_b, xLen_t, xLen_l, xLen_s, xLen_d, xTuple_l, xTuple_t, xList_l, xList_t, xIx_t, xIx_l, xIx_s, xIx_di, xIx_ds, at0, at1, at2, at3, at4, at5, at6, at7, xIs_nn, xIs_i, xIs_s, xIs_b, xIs_t, xIs_l, xIs_d, xIsB_n, xIsB_i, xIsB_s, xIsB_b, yInt_i, yInt_b, yInt_n, yInt_s, yInt_t, yInt_l, yBool_i, yBool_b, yBool_n, yBool_s, yBool_t, yBool_l, yStr_i, yStr_b, yStr_n, yStr_s, yStr_t, yStr_l, yTup_i, yTup_b, yTup_n, yTup_s, yTup_t, yTup_l, yLst_i, yLst_n, yLst_s, yLst_t, yLst_l, xIn_l, xIn_it, xIn_il, xIn_sd, xLt_pp, xGt_pp, xLe_pp, xGe_pp, xII, z0, z1, z2, zput0, zput1, zC, zV, zv_d, zv_l, zv_k, zOp, zUn, zlk_d, zlk_l, zlk_k, zlk_b, zls_d, zls_l, zls_k, zfz_d, zfz_l, zfz_k, zfz_b, zfr_l, zfr_k, zfr_d, ztB, zbk, ztT, ztr_b, ztr_i, ztr_n, ztr_t, ztr_l, ztr_s, ztAnd, ztOr, ztNot, zeAnd, zeOr, zeNot, zeIf, zaNil, zaCons, zTup, zLst, zCB, zCall, zCallK, zfdn, zDicK, zpNone, zpSome, zpsk, zSl, zChain, zchk, zSeq, zsNil, zBreak, zCont, zIf, zSet, zs_d, zs_l, zs_k, zs_b, zRet, zr_d, zr_l, zr_k, zr_b, zRetN, zDrop, zFor, ziE, zit_t, zit_l, zit_s, zR1, zr1, zR2, zr2, zgN, zAsg, zgT, zgsC, zgsN, zApp, zap0, zap, zLc, zclr, zclr2, zbck, zkeep_d, zkeep_n, zDP, zdp0, zdp, zky_i, zky_s, xSorted, xNe_bb, zPop, zpopk, zExt, zextk, zextk2, xUpper, xInW, xIxW, xLt_ss, xLe_ss, xGt_ss, xSl_t, xSl_l, xSl_s, zlNil, zlCons, zpin_d, zpin_l, zpin_k, zpin_b, zlkL0, zlkL1, zCallL, zimm_d, zimm_l, zimm_k, zimm_i, zimm_s, zimm_b, zimm_n, zimm_t, zimm_0, zimm_1, zSortSet, List.length_cons, List.length_nil, List.nil_append, List.append_nil, List.cons_append, true_and, and_true, reduceIte, if_true, if_false, decide_eq_true_eq, Bool.not_true, Bool.not_false, Bool.not_eq_true, Bool.false_eq_true, Nat.reduceAdd, Nat.zero_add, Bool.not_eq_false, decide_false, decide_true, Bool.not_eq_eq_eq_not, Bool.true_eq, decide_not, Bool.not_not, decide_eq_false_iff_not, eq_self]
        refine i2 _ ?_
        simp only [xEq_ii, xEq_ss, xEq_nn, xEq_bb, xEq_ni, xEq_in, xNe_ii, xNe_ss, xLt_ii, xGt_ii, xLe_ii, xGe_ii, xAdd_ii, xAdd_ss, xAdd_tt, xAdd_ll, xSub_ii, xMul_ii, xDiv_ii, xMod_ii, xPow_ii, xNeg_i, xInt_i, xInt_b, xLen_t, xLen_l, xLen_s, xLen_d, xTuple_l, xTuple_t, xList_l, xList_t, xIx_t, xIx_l, xIx_s, xIx_di, xIx_ds, at0, at1, at2, at3, at4, at5, at6, at7, xIs_nn, xIs_i, xIs_s, xIs_b, xIs_t, xIs_l, xIs_d, xIsB_n, xIsB_i, xIsB_s, xIsB_b, yInt_i, yInt_b, yInt_n, yInt_s, yInt_t, yInt_l, yBool_i, yBool_b, yBool_n, yBool_s, yBool_t, yBool_l, yStr_i, yStr_b, yStr_n, yStr_s, yStr_t, yStr_l, yTup_i, yTup_b, yTup_n, yTup_s, yTup_t, yTup_l, yLst_i, yLst_n, yLst_s, yLst_t, yLst_l, xIn_l, xIn_it, xIn_il, xIn_sd, xLt_pp, xGt_pp, xLe_pp, xGe_pp, xII, z0, z1, z2, zput0, zput1, zC, zV, zv_d, zv_l, zv_k, zOp, zUn, zlk_d, zlk_l, zlk_k, zlk_b, zls_d, zls_l, zls_k, zfz_d, zfz_l, zfz_k, zfz_b, zfr_l, zfr_k, zfr_d, ztB, zbk, ztT, ztr_b, ztr_i, ztr_n, ztr_t, ztr_l, ztr_s, ztAnd, ztOr, ztNot, zeAnd, zeOr, zeNot, zeIf, zaNil, zaCons, zTup, zLst, zCB, zCall, zCallK, zfdn, zDicK, zpNone, zpSome, zpsk, zSl, zChain, zchk, zSeq, zsNil, zBreak, zCont, zIf, zSet, zs_d, zs_l, zs_k, zs_b, zRet, zr_d, zr_l, zr_k, zr_b, zRetN, zDrop, zFor, ziE, zit_t, zit_l, zit_s, zR1, zr1, zR2, zr2, zgN, zAsg, zgT, zgsC, zgsN, zApp, zap0, zap, zLc, zclr, zclr2, zbck, zkeep_d, zkeep_n, zDP, zdp0, zdp, zky_i, zky_s, xSorted, xNe_bb, zPop, zpopk, zExt, zextk, zextk2, xUpper, xInW, xIxW, xLt_ss, xLe_ss, xGt_ss, xSl_t, xSl_l, xSl_s, zlNil, zlCons, zpin_d, zpin_l, zpin_k, zpin_b, zlkL0, zlkL1, zCallL, zimm_d, zimm_l, zimm_k, zimm_i, zimm_s, zimm_b, zimm_n, zimm_t, zimm_0, zimm_1, zSortSet, List.length_cons, List.length_nil, List.nil_append, List.append_nil, List.cons_append, true_and, and_true, reduceIte, if_true, if_false, decide_eq_true_eq, Bool.not_true, Bool.not_false, Bool.not_eq_true, Bool.false_eq_true, Nat.reduceAdd, Nat.zero_add, Bool.not_eq_false, decide_false, decide_true, Bool.not_eq_eq_eq_not, Bool.true_eq, decide_not, Bool.not_not, decide_eq_false_iff_not, eq_self]
        exact h
    | false =>
      simp only [Φ_p_law_fits, Q.D, xEq_ii, xEq_ss, xEq_nn, xEq_bb, xEq_ni, xEq_in, xNe_ii, xNe_ss, xLt_ii, xGt_ii, xLe_ii, xGe_ii, xAdd_ii, xAdd_ss, xAdd_tt, xAdd_ll, xSub_ii, xMul_ii, xDiv_ii, xMod_ii, xPow_ii, xNeg_i, xInt_i, xInt_b, xLen_t, xLen_l, xLen_s, xLen_d, xTuple_l, xTuple_t, xList_l, xList_t, xIx_t, xIx_l, xIx_s, xIx_di, xIx_ds, at0, at1, at2, at3, at4, at5, at6, at7, xIs_nn, xIs_i, xIs_s, xIs_b, xIs_t, xIs_l, xIs_d, xIsB_n, xIsB_i, xIsB_s, xIsB_b, yInt_i, yInt_b, yInt_n, yInt_s, yInt_t, yInt_l, yBool_i, yBool_b, yBool_n, yBool_s, yBool_t, yBool_l, yStr_i, yStr_b, yStr_n, yStr_s, yStr_t, yStr_l, yTup_i, yTup_b, yTup_n, yTup_s, yTup_t, yTup_l, yLst_i, yLst_n, yLst_s, yLst_t, yLst_l, xIn_l, xIn_it, xIn_il, xIn_sd, xLt_pp, xGt_pp, xLe_pp, xGe_pp, xII, z0, z1, z2, zput0, zput1, zC, zV, zv_d, zv_l, zv_k, zOp, zUn, zlk_d, zlk_l, zlk_k, zlk_b, zls_d, zls_l, zls_k, zfz_d, zfz_l, zfz_k, zfz_b, zfr_l, zfr_k, zfr_d, ztB, zbk, ztT, ztr_b, ztr_i, ztr_n, ztr_t, ztr_l, ztr_s, ztAnd, ztOr, ztNot, zeAnd, zeOr, zeNot, zeIf, zaNil, zaCons, zTup, zLst, zCB, zCall, zCallK, zfdn, zDicK, zpNone, zpSome, zpsk, zSl, zChain, zchk, zSeq, zsNil, zBreak, zCont, zIf, zSet, zs_d, zs_l, zs_k, zs_b, zRet, zr_d, zr_l, zr_k, zr_b, zRetN, zDrop, zFor, ziE, zit_t, zit_l, zit_s, zR1, zr1, zR2, zr2, zgN, zAsg, zgT, zgsC, zgsN, zApp, zap0, zap, zLc, zclr, zclr2, zbck, zkeep_d, zkeep_n, zDP, zdp0, zdp, zky_i, zky_s, xSorted, xNe_bb, zPop, zpopk, zExt, zextk, zextk2, xUpper, xInW, xIxW, xLt_ss, xLe_ss, xGt_ss, xSl_t, xSl_l, xSl_s, zlNil, zlCons, zpin_d, zpin_l, zpin_k, zpin_b, zlkL0, zlkL1, zCallL, zimm_d, zimm_l, zimm_k, zimm_i, zimm_s, zimm_b, zimm_n, zimm_t, zimm_0, zimm_1, zSortSet, List.length_cons, List.length_nil, List.nil_append, List.append_nil, List.cons_append, true_and, and_true, reduceIte, if_true, if_false, decide_eq_true_eq, Bool.not_true, Bool.not_false, Bool.not_eq_true, Bool.false_eq_true, Nat.reduceAdd, Nat.zero_add, Bool.not_eq_false, decide_false, decide_true, Bool.not_eq_eq_eq_not, Bool.true_eq, decide_not, Bool.not_not, decide_eq_false_iff_not, eq_self, ne_any_is, ne_any_has, ne_any_not, ne_any_and, ne_any_or, ne_is_any, ne_is_has, ne_is_not, ne_is_and, ne_is_or, ne_has_any, ne_has_is, ne_has_not, ne_has_and, ne_has_or, ne_not_any, ne_not_is, ne_not_has, ne_not_and, ne_not_or, ne_and_any, ne_and_is, ne_and_has, ne_and_not, ne_and_or, ne_or_any, ne_or_is, ne_or_has, ne_or_not, ne_or_and]
      refine i1 _ ?_
      simp only [Bool.false_eq_true, if_false] at h
      cases e : p.ev ps
      · rw [e] at h
        simp only [xEq_ii, xEq_ss, xEq_nn, xEq_bb, xEq_ni, xEq_in, xNe_ii, xNe_ss, xLt_ii, xGt_ii, xLe_ii, xGe_ii, xAdd_ii, xAdd_ss, xAdd_tt, xAdd_ll, xSub_ii, xMul_ii, xDiv_ii, xMod_ii, xPow_ii, xNeg_i, xInt_i, xInt_b, xLen_t, xLen_l, xLen_s, xLen_d, xTuple_l, xTuple_t, xList_l, xList_t, xIx_t, xIx_l, xIx_s, xIx_di, xIx_ds, at0, at1, at2, at3, at4, at5, at6, at7, xIs_nn, xIs_i, xIs_s, xIs_b, xIs_t, xIs_l, xIs_d, xIsB_n, xIsB_i, xIsB_s, xIsB_b, yInt_i, yInt_b, yInt_n, yInt_s, yInt_t, yInt_l, yBool_i, yBool_b, yBool_n, yBool_s, yBool_t, yBool_l, yStr_i, yStr_b, yStr_n, yStr_s, yStr_t, yStr_l, yTup_i, yTup_b, yTup_n, yTup_s, yTup_t, yTup_l, yLst_i, yLst_n, yLst_s, yLst_t, yLst_l, xIn_l, xIn_it, xIn_il, xIn_sd, xLt_pp, xGt_pp, xLe_pp, xGe_pp, xII, z0, z1, z2, zput0, zput1, zC, zV, zv_d, zv_l, zv_k, zOp, zUn, zlk_d, zlk_l, zlk_k, zlk_b, zls_d, zls_l, zls_k, zfz_d, zfz_l, zfz_k, zfz_b, zfr_l, zfr_k, zfr_d, ztB, zbk, ztT, ztr_b, ztr_i, ztr_n, ztr_t, ztr_l, ztr_s, ztAnd, ztOr, ztNot, zeAnd, zeOr, zeNot, zeIf, zaNil, zaCons, zTup, zLst, zCB, zCall, zCallK, zfdn, zDicK, zpNone, zpSome, zpsk, zSl, zChain, zchk, zSeq, zsNil, zBreak, zCont, zIf, zSet, zs_d, zs_l, zs_k, zs_b, zRet, zr_d, zr_l, zr_k, zr_b, zRetN, zDrop, zFor, ziE, zit_t, zit_l, zit_s, zR1, zr1, zR2, zr2, zgN, zAsg, zgT, zgsC, zgsN, zApp, zap0, zap, zLc, zclr, zclr2, zbck, zkeep_d, zkeep_n, zDP, zdp0, zdp, zky_i, zky_s, xSorted, xNe_bb, zPop, zpopk, zExt, zextk, zextk2, xUpper, xInW, xIxW, xLt_ss, xLe_ss, xGt_ss, xSl_t, xSl_l, xSl_s, zlNil, zlCons, zpin_d, zpin_l, zpin_k, zpin_b, zlkL0, zlkL1, zCallL, zimm_d, zimm_l, zimm_k, zimm_i, zimm_s, zimm_b, zimm_n, zimm_t, zimm_0, zimm_1, zSortSet, List.length_cons, List.length_nil, List.nil_append, List.append_nil, List.cons_append, true_and, and_true, reduceIte, if_true, if_false, decide_eq_true_eq, Bool.not_true, Bool.not_false, Bool.not_eq_true, Bool.false_eq_true, Nat.reduceAdd, Nat.zero_add, Bool.not_eq_false, decide_false, decide_true, Bool.not_eq_eq_eq_not, Bool.true_eq, decide_not, Bool.not_not, decide_eq_false_iff_not, eq_self]
        refine i2 _ ?_
        simp only [xEq_ii, xEq_ss, xEq_nn, xEq_bb, xEq_ni, xEq_in, xNe_ii, xNe_ss, xLt_ii, xGt_ii, xLe_ii, xGe_ii, xAdd_ii, xAdd_ss, xAdd_tt, xAdd_ll, xSub_ii, xMul_ii, xDiv_ii, xMod_ii, xPow_ii, xNeg_i, xInt_i, xInt_b, xLen_t, xLen_l, xLen_s, xLen_d, xTuple_l, xTuple_t, xList_l, xList_t, xIx_t, xIx_l, xIx_s, xIx_di, xIx_ds, at0, at1, at2, at3, at4, at5, at6, at7, xIs_nn, xIs_i, xIs_s, xIs_b, xIs_t, xIs_l, xIs_d, xIsB_n, xIsB_i, xIsB_s, xIsB_b, yInt_i, yInt_b, yInt_n, yInt_s, yInt_t, yInt_l, yBool_i, yBool_b, yBool_n, yBool_s, yBool_t, yBool_l, yStr_i, yStr_b, yStr_n, yStr_s, yStr_t, yStr_l, yTup_i, yTup_b, yTup_n, yTup_s, yTup_t, yTup_l, yLst_i, yLst_n, yLst_s, yLst_t, yLst_l, xIn_l, xIn_it, xIn_il, xIn_sd, xLt_pp, xGt_pp, xLe_pp, xGe_pp, xII, z0, z1, z2, zput0, zput1, zC, zV, zv_d, zv_l, zv_k, zOp, zUn, zlk_d, zlk_l, zlk_k, zlk_b, zls_d, zls_l, zls_k, zfz_d, zfz_l, zfz_k, zfz_b, zfr_l, zfr_k, zfr_d, ztB, zbk, ztT, ztr_b, ztr_i, ztr_n, ztr_t, ztr_l, ztr_s, ztAnd, ztOr, ztNot, zeAnd, zeOr, zeNot, zeIf, zaNil, zaCons, zTup, zLst, zCB, zCall, zCallK, zfdn, zDicK, zpNone, zpSome, zpsk, zSl, zChain, zchk, zSeq, zsNil, zBreak, zCont, zIf, zSet, zs_d, zs_l, zs_k, zs_b, zRet, zr_d, zr_l, zr_k, zr_b, zRetN, zDrop, zFor, ziE, zit_t, zit_l, zit_s, zR1, zr1, zR2, zr2, zgN, zAsg, zgT, zgsC, zgsN, zApp, zap0, zap, zLc, zclr, zclr2, zbck, zkeep_d, zkeep_n, zDP, zdp0, zdp, zky_i, zky_s, xSorted, xNe_bb, zPop, zpopk, zExt, zextk, zextk2, xUpper, xInW, xIxW, xLt_ss, xLe_ss, xGt_ss, xSl_t, xSl_l, xSl_s, zlNil, zlCons, zpin_d, zpin_l, zpin_k, zpin_b, zlkL0, zlkL1, zCallL, zimm_d, zimm_l, zimm_k, zimm_i, zimm_s, zimm_b, zimm_n, zimm_t, zimm_0, zimm_1, zSortSet, List.length_cons, List.length_nil, List.nil_append, List.append_nil, List.cons_append, true_and, and_true, reduceIte, if_true, if_false, decide_eq_true_eq, Bool.not_true, Bool.not_false, Bool.not_eq_true, Bool.false_eq_true, Nat.reduceAdd, Nat.zero_add, Bool.not_eq_false, decide_false, decide_true, Bool.not_eq_eq_eq_not, Bool.true_eq, decide_not, Bool.not_not, decide_eq_false_iff_not, eq_self]
        exact h
      · rw [e] at h; simp only [xEq_ii, xEq_ss, xEq_nn, xEq_bb, xEq_ni, xEq_in, xNe_ii, xNe_ss, xLt_ii, xGt_ii, xLe_ii, xGe_ii, xAdd_ii, xAdd_ss, xAdd_tt, xAdd_ll, xSub_ii, xMul_ii, xDiv_ii, xMod_ii, xPow_ii, xNeg_i, xInt_i, xInt_b, xLen_t, xLen_l, xLen_s, xLen_d, xTuple_l, xTuple_t, xList_l, xList_t, xIx_t, xIx_l, xIx_s, xIx_di, xIx_ds, at0, at1, at2, at3, at4, at5, at6, at7, xIs_nn, xIs_i, xIs_s, xIs_b, xIs_t, xIs_l, xIs_d, xIsB_n, xIsB_i, xIsB_s, xIsB_b, yInt_i, yInt_b, yInt_n, yInt_s, yInt_t, yInt_l, yBool_i, yBool_b, yBool_n, yBool_s, yBool_t, yBool_l, yStr_i, yStr_b, yStr_n, yStr_s, yStr_t, yStr_l, yTup_i, yTup_b, yTup_n, yTup_s, yTup_t, yTup_l, yLst_i, yLst_n, yLst_s, yLst_t, yLst_l, xIn_l, xIn_it, xIn_il, xIn_sd, xLt_pp, xGt_pp, xLe_pp, xGe_pp, xII, z0, z1, z2, zput0, zput1, zC, zV, zv_d, zv_l, zv_k, zOp, zUn, zlk_d, zlk_l, zlk_k, zlk_b, zls_d, zls_l, zls_k, zfz_d, zfz_l, zfz_k, zfz_b, zfr_l, zfr_k, zfr_d, ztB, zbk, ztT, ztr_b, ztr_i, ztr_n, ztr_t, ztr_l, ztr_s, ztAnd, ztOr, ztNot, zeAnd, zeOr, zeNot, zeIf, zaNil, zaCons, zTup, zLst, zCB, zCall, zCallK, zfdn, zDicK, zpNone, zpSome, zpsk, zSl, zChain, zchk, zSeq, zsNil, zBreak, zCont, zIf, zSet, zs_d, zs_l, zs_k, zs_b, zRet, zr_d, zr_l, zr_k, zr_b, zRetN, zDrop, zFor, ziE, zit_t, zit_l, zit_s, zR1, zr1, zR2, zr2, zgN, zAsg, zgT, zgsC, zgsN, zApp, zap0, zap, zLc, zclr, zclr2, zbck, zkeep_d, zkeep_n, zDP, zdp0, zdp, zky_i, zky_s, xSorted, xNe_bb, zPop, zpopk, zExt, zextk, zextk2, xUpper, xInW, xIxW, xLt_ss, xLe_ss, xGt_ss, xSl_t, xSl_l, xSl_s, zlNil, zlCons, zpin_d, zpin_l, zpin_k, zpin_b, zlkL0, zlkL1, zCallL, zimm_d, zimm_l, zimm_k, zimm_i, zimm_s, zimm_b, zimm_n, zimm_t, zimm_0, zimm_1, zSortSet, List.length_cons, List.length_nil, List.nil_append, List.append_nil, List.cons_append, true_and, and_true, reduceIte, if_true, if_false, decide_eq_true_eq, Bool.not_true, Bool.not_false, Bool.not_eq_true, Bool.false_eq_true, Nat.reduceAdd, Nat.zero_add, Bool.not_eq_false, decide_false, decide_true, Bool.not_eq_eq_eq_not, Bool.true_eq, decide_not, Bool.not_not, decide_eq_false_iff_not, eq_self]; exact h
end
end K04
namespace K04
open PySem PySem.Spec PyProof.Rows L2 DL
theorem app_cps (x y : Str) : (x ++ y).cps.toList = x.cps.toList ++ y.cps.toList := by
  show (x.cps ++ y.cps).toList = _
  simp
theorem len_cps (x : Str) : x.length = x.cps.toList.length := by show x.cps.size = _; simp
structure NmL (n : Nat) (x : Str) : Prop where
  nm : Nm x
  le : x.cps.toList.length ≤ n
theorem NmL.mono {n m : Nat} {x : Str} (h : NmL n x) (l : n ≤ m) : NmL m x := ⟨h.nm, by have := h.le; omega⟩
def sg : Str := "abcdefghijklmnopqrstuvwxyzABCDEFGHIJKLMNOPQRSTUVWXYZ_0123456789"
theorem low_up : Txt.upper "abcdefghijklmnopqrstuvwxyz" = "ABCDEFGHIJKLMNOPQRSTUVWXYZ" := by decide +kernel
theorem low_a1 : ("abcdefghijklmnopqrstuvwxyz" : Str) ++ ("ABCDEFGHIJKLMNOPQRSTUVWXYZ" : Str) = "abcdefghijklmnopqrstuvwxyzABCDEFGHIJKLMNOPQRSTUVWXYZ" := by decide +kernel
theorem low_a2 : ("abcdefghijklmnopqrstuvwxyzABCDEFGHIJKLMNOPQRSTUVWXYZ" : Str) ++ ("_0123456789" : Str) = sg := by decide +kernel
theorem ln1 : Str.length "abcdefghijklmnopqrstuvwxyz" = 26 := by decide +kernel
theorem ln2 : Str.length "ABCDEFGHIJKLMNOPQRSTUVWXYZ" = 26 := by decide +kernel
theorem ln3 : Str.length "abcdefghijklmnopqrstuvwxyzABCDEFGHIJKLMNOPQRSTUVWXYZ" = 52 := by decide +kernel
theorem ln4 : Str.length "_0123456789" = 11 := by decide +kernel
theorem ln5 : Str.length sg = 63 := by decide +kernel
theorem bg1 : (26 ≤ 5592405) = True := eq_true (by decide)
theorem bg2 : (26 + 26 ≤ sizeLine) = True := eq_true (by decide)
theorem bg3 : (52 + 11 ≤ sizeLine) = True := eq_true (by decide)
theorem bg4 : (26 ≤ sizeLine) = True := eq_true (by decide)
theorem bg5 : (63 ≤ sizeLine) = True := eq_true (by decide)
theorem sg_at {i : Int} (h0 : 0 ≤ i) (h1 : i < 63) : ∃ c, atD sg.cps.toList i = some c ∧ c ∈ signS.cps.toList := by
  have l : sg.cps.toList.length = 63 := by decide +kernel
  obtain ⟨c, e, m⟩ := atD_in (l := sg.cps.toList) h0 (by rw [l]; exact h1)
  have all : ∀ c ∈ sg.cps.toList, c ∈ signS.cps.toList := by decide +kernel
  exact ⟨c, e, all c m⟩
theorem low_at {i : Int} (h0 : 0 ≤ i) (h1 : i < 26) : ∃ c, atD ("abcdefghijklmnopqrstuvwxyz" : Str).cps.toList i = some c ∧ c ∈ smallS.cps.toList := by
  have l : ("abcdefghijklmnopqrstuvwxyz" : Str).cps.toList.length = 26 := by decide +kernel
  exact atD_in (l := ("abcdefghijklmnopqrstuvwxyz" : Str).cps.toList) h0 (by rw [l]; exact h1)
theorem small_sign : ∀ c ∈ smallS.cps.toList, c ∈ signS.cps.toList := by decide +kernel
theorem nm_one {c : Nat} (h : c ∈ smallS.cps.toList) : NmL 1 ⟨#[c]⟩ := ⟨⟨⟨c, [], rfl, h⟩, fun d hd => by rw [List.mem_singleton.mp hd]; exact small_sign c h, by show 1 < 500; decide⟩, Nat.le_refl 1⟩
theorem NmL.snoc {n c : Nat} {x : Str} (h : NmL n x) (hc : c ∈ signS.cps.toList) (hn : n < 499) : NmL (n + 1) (x ++ ⟨#[c]⟩) := by
  have e : (x ++ ⟨#[c]⟩ : Str).cps.toList = x.cps.toList ++ [c] := app_cps _ _
  have l := h.le
  refine ⟨⟨?_, fun d hd => ?_, ?_⟩, ?_⟩
  · obtain ⟨b, r, e1, e2⟩ := h.nm.hd
    exact ⟨b, r ++ [c], by rw [e, e1]; rfl, e2⟩
  · rw [e] at hd
    rcases List.mem_append.mp hd with hd | hd
    · exact h.nm.all d hd
    · rw [List.mem_singleton.mp hd]; exact hc
  · rw [e, List.length_append, List.length_singleton]; omega
  · rw [e, List.length_append, List.length_singleton]; omega
section
variable {μ : Mu} {R : Sl → Mu → Prop} {w : DL.D} {Δ : DE}
theorem one_t {xs : List DL.D} (h0 : 0 < xs.length) (h1 : xs.length < 1073741824) (h : ∀ d ∈ xs, R (.d d) μ) : fn_p_law_one [.dlr, .tup xs] μ R := by
  show Φ_p_law_one _ ⟨[.d .dlr, .d (.tup xs)], μ⟩
  simp only [Φ_p_law_one, xEq_ii, xEq_ss, xEq_nn, xEq_bb, xEq_ni, xEq_in, xNe_ii, xNe_ss, xLt_ii, xGt_ii, xLe_ii, xGe_ii, xAdd_ii, xAdd_ss, xAdd_tt, xAdd_ll, xSub_ii, xMul_ii, xDiv_ii, xMod_ii, xPow_ii, xNeg_i, xInt_i, xInt_b, xLen_t, xLen_l, xLen_s, xLen_d, xTuple_l, xTuple_t, xList_l, xList_t, xIx_t, xIx_l, xIx_s, xIx_di, xIx_ds, at0, at1, at2, at3, at4, at5, at6, at7, xIs_nn, xIs_i, xIs_s, xIs_b, xIs_t, xIs_l, xIs_d, xIsB_n, xIsB_i, xIsB_s, xIsB_b, yInt_i, yInt_b, yInt_n, yInt_s, yInt_t, yInt_l, yBool_i, yBool_b, yBool_n, yBool_s, yBool_t, yBool_l, yStr_i, yStr_b, yStr_n, yStr_s, yStr_t, yStr_l, yTup_i, yTup_b, yTup_n, yTup_s, yTup_t, yTup_l, yLst_i, yLst_n, yLst_s, yLst_t, yLst_l, xIn_t, xIn_l, xIn_it, xIn_il, xIn_sd, xLt_pp, xGt_pp, xLe_pp, xGe_pp, xII, z0, z1, z2, zput0, zput1, zC, zV, zv_d, zv_l, zv_k, zOp, zUn, zlk_d, zlk_l, zlk_k, zlk_b, zls_d, zls_l, zls_k, zfz_d, zfz_l, zfz_k, zfz_b, zfr_l, zfr_k, zfr_d, ztB, zbk, ztT, ztr_b, ztr_i, ztr_n, ztr_t, ztr_l, ztr_s, ztAnd, ztOr, ztNot, zeAnd, zeOr, zeNot, zeIf, zaNil, zaCons, zTup, zLst, zCB, zCall, zCallK, zfdn, zDicK, zpNone, zpSome, zpsk, zSl, zChain, zchk, zSeq, zsNil, zBreak, zCont, zIf, zSet, zs_d, zs_l, zs_k, zs_b, zRet, zr_d, zr_l, zr_k, zr_b, zRetN, zDrop, zFor, ziE, zit_t, zit_l, zit_s, zR1, zr1, zR2, zr2, zgN, zAsg, zgT, zgsC, zgsN, zApp, zap0, zap, zLc, zclr, zclr2, zbck, zkeep_d, zkeep_n, zDP, zdp0, zdp, zky_i, zky_s, xSorted, xNe_bb, zPop, zpopk, zExt, zextk, zextk2, xUpper, xInW, xIxW, xLt_ss, xLe_ss, xGt_ss, xSl_t, xSl_l, xSl_s, zlNil, zlCons, zpin_d, zpin_l, zpin_k, zpin_b, zlkL0, zlkL1, zCallL, zimm_d, zimm_l, zimm_k, zimm_i, zimm_s, zimm_b, zimm_n, zimm_t, zimm_0, zimm_1, zSortSet, List.length_cons, List.length_nil, List.nil_append, List.append_nil, List.cons_append, true_and, and_true, reduceIte, if_true, if_false, decide_eq_true_eq, Bool.not_true, Bool.not_false, Bool.not_eq_true, Bool.false_eq_true, Nat.reduceAdd, Nat.zero_add, Bool.not_eq_false, decide_false, decide_true, Bool.not_eq_eq_eq_not, Bool.true_eq, decide_not, Bool.not_not, decide_eq_false_iff_not, eq_self]
  refine deal_ok (by omega) (by omega) fun d d0 d1 => ?_
  simp only [xEq_ii, xEq_ss, xEq_nn, xEq_bb, xEq_ni, xEq_in, xNe_ii, xNe_ss, xLt_ii, xGt_ii, xLe_ii, xGe_ii, xAdd_ii, xAdd_ss, xAdd_tt, xAdd_ll, xSub_ii, xMul_ii, xDiv_ii, xMod_ii, xPow_ii, xNeg_i, xInt_i, xInt_b, xLen_t, xLen_l, xLen_s, xLen_d, xTuple_l, xTuple_t, xList_l, xList_t, xIx_t, xIx_l, xIx_s, xIx_di, xIx_ds, at0, at1, at2, at3, at4, at5, at6, at7, xIs_nn, xIs_i, xIs_s, xIs_b, xIs_t, xIs_l, xIs_d, xIsB_n, xIsB_i, xIsB_s, xIsB_b, yInt_i, yInt_b, yInt_n, yInt_s, yInt_t, yInt_l, yBool_i, yBool_b, yBool_n, yBool_s, yBool_t, yBool_l, yStr_i, yStr_b, yStr_n, yStr_s, yStr_t, yStr_l, yTup_i, yTup_b, yTup_n, yTup_s, yTup_t, yTup_l, yLst_i, yLst_n, yLst_s, yLst_t, yLst_l, xIn_t, xIn_l, xIn_it, xIn_il, xIn_sd, xLt_pp, xGt_pp, xLe_pp, xGe_pp, xII, z0, z1, z2, zput0, zput1, zC, zV, zv_d, zv_l, zv_k, zOp, zUn, zlk_d, zlk_l, zlk_k, zlk_b, zls_d, zls_l, zls_k, zfz_d, zfz_l, zfz_k, zfz_b, zfr_l, zfr_k, zfr_d, ztB, zbk, ztT, ztr_b, ztr_i, ztr_n, ztr_t, ztr_l, ztr_s, ztAnd, ztOr, ztNot, zeAnd, zeOr, zeNot, zeIf, zaNil, zaCons, zTup, zLst, zCB, zCall, zCallK, zfdn, zDicK, zpNone, zpSome, zpsk, zSl, zChain, zchk, zSeq, zsNil, zBreak, zCont, zIf, zSet, zs_d, zs_l, zs_k, zs_b, zRet, zr_d, zr_l, zr_k, zr_b, zRetN, zDrop, zFor, ziE, zit_t, zit_l, zit_s, zR1, zr1, zR2, zr2, zgN, zAsg, zgT, zgsC, zgsN, zApp, zap0, zap, zLc, zclr, zclr2, zbck, zkeep_d, zkeep_n, zDP, zdp0, zdp, zky_i, zky_s, xSorted, xNe_bb, zPop, zpopk, zExt, zextk, zextk2, xUpper, xInW, xIxW, xLt_ss, xLe_ss, xGt_ss, xSl_t, xSl_l, xSl_s, zlNil, zlCons, zpin_d, zpin_l, zpin_k, zpin_b, zlkL0, zlkL1, zCallL, zimm_d, zimm_l, zimm_k, zimm_i, zimm_s, zimm_b, zimm_n, zimm_t, zimm_0, zimm_1, zSortSet, List.length_cons, List.length_nil, List.nil_append, List.append_nil, List.cons_append, true_and, and_true, reduceIte, if_true, if_false, decide_eq_true_eq, Bool.not_true, Bool.not_false, Bool.not_eq_true, Bool.false_eq_true, Nat.reduceAdd, Nat.zero_add, Bool.not_eq_false, decide_false, decide_true, Bool.not_eq_eq_eq_not, Bool.true_eq, decide_not, Bool.not_not, decide_eq_false_iff_not, eq_self]
  obtain ⟨y, e, hy⟩ := atD_in d0 d1
  rw [e]
  exact h y hy
theorem one_p (xs : List Int) (P : Int → Prop) (hP : ∀ j ∈ xs, P j) (h : ∀ j, P j → R (.d (.int j)) μ) (h0 : 0 < xs.length := by decide) (h1 : xs.length < 1073741824 := by decide) : fn_p_law_one [.dlr, .tup (xs.map D.int)] μ R :=
  one_t (by simpa using h0) (by simpa using h1) fun d hd => by
    obtain ⟨j, hj, rfl⟩ := List.mem_map.mp hd
    exact h j (hP j hj)
theorem one_l {xs : List DL.D} (h0 : 0 < xs.length) (h1 : xs.length < 1073741824) (h : ∀ d ∈ xs, R (.d d) μ) : fn_p_law_one [.dlr, .lst xs] μ R := by
  show Φ_p_law_one _ ⟨[.d .dlr, .d (.lst xs)], μ⟩
  simp only [Φ_p_law_one, xEq_ii, xEq_ss, xEq_nn, xEq_bb, xEq_ni, xEq_in, xNe_ii, xNe_ss, xLt_ii, xGt_ii, xLe_ii, xGe_ii, xAdd_ii, xAdd_ss, xAdd_tt, xAdd_ll, xSub_ii, xMul_ii, xDiv_ii, xMod_ii, xPow_ii, xNeg_i, xInt_i, xInt_b, xLen_t, xLen_l, xLen_s, xLen_d, xTuple_l, xTuple_t, xList_l, xList_t, xIx_t, xIx_l, xIx_s, xIx_di, xIx_ds, at0, at1, at2, at3, at4, at5, at6, at7, xIs_nn, xIs_i, xIs_s, xIs_b, xIs_t, xIs_l, xIs_d, xIsB_n, xIsB_i, xIsB_s, xIsB_b, yInt_i, yInt_b, yInt_n, yInt_s, yInt_t, yInt_l, yBool_i, yBool_b, yBool_n, yBool_s, yBool_t, yBool_l, yStr_i, yStr_b, yStr_n, yStr_s, yStr_t, yStr_l, yTup_i, yTup_b, yTup_n, yTup_s, yTup_t, yTup_l, yLst_i, yLst_n, yLst_s, yLst_t, yLst_l, xIn_t, xIn_l, xIn_it, xIn_il, xIn_sd, xLt_pp, xGt_pp, xLe_pp, xGe_pp, xII, z0, z1, z2, zput0, zput1, zC, zV, zv_d, zv_l, zv_k, zOp, zUn, zlk_d, zlk_l, zlk_k, zlk_b, zls_d, zls_l, zls_k, zfz_d, zfz_l, zfz_k, zfz_b, zfr_l, zfr_k, zfr_d, ztB, zbk, ztT, ztr_b, ztr_i, ztr_n, ztr_t, ztr_l, ztr_s, ztAnd, ztOr, ztNot, zeAnd, zeOr, zeNot, zeIf, zaNil, zaCons, zTup, zLst, zCB, zCall, zCallK, zfdn, zDicK, zpNone, zpSome, zpsk, zSl, zChain, zchk, zSeq, zsNil, zBreak, zCont, zIf, zSet, zs_d, zs_l, zs_k, zs_b, zRet, zr_d, zr_l, zr_k, zr_b, zRetN, zDrop, zFor, ziE, zit_t, zit_l, zit_s, zR1, zr1, zR2, zr2, zgN, zAsg, zgT, zgsC, zgsN, zApp, zap0, zap, zLc, zclr, zclr2, zbck, zkeep_d, zkeep_n, zDP, zdp0, zdp, zky_i, zky_s, xSorted, xNe_bb, zPop, zpopk, zExt, zextk, zextk2, xUpper, xInW, xIxW, xLt_ss, xLe_ss, xGt_ss, xSl_t, xSl_l, xSl_s, zlNil, zlCons, zpin_d, zpin_l, zpin_k, zpin_b, zlkL0, zlkL1, zCallL, zimm_d, zimm_l, zimm_k, zimm_i, zimm_s, zimm_b, zimm_n, zimm_t, zimm_0, zimm_1, zSortSet, List.length_cons, List.length_nil, List.nil_append, List.append_nil, List.cons_append, true_and, and_true, reduceIte, if_true, if_false, decide_eq_true_eq, Bool.not_true, Bool.not_false, Bool.not_eq_true, Bool.false_eq_true, Nat.reduceAdd, Nat.zero_add, Bool.not_eq_false, decide_false, decide_true, Bool.not_eq_eq_eq_not, Bool.true_eq, decide_not, Bool.not_not, decide_eq_false_iff_not, eq_self]
  refine deal_ok (by omega) (by omega) fun d d0 d1 => ?_
  simp only [xEq_ii, xEq_ss, xEq_nn, xEq_bb, xEq_ni, xEq_in, xNe_ii, xNe_ss, xLt_ii, xGt_ii, xLe_ii, xGe_ii, xAdd_ii, xAdd_ss, xAdd_tt, xAdd_ll, xSub_ii, xMul_ii, xDiv_ii, xMod_ii, xPow_ii, xNeg_i, xInt_i, xInt_b, xLen_t, xLen_l, xLen_s, xLen_d, xTuple_l, xTuple_t, xList_l, xList_t, xIx_t, xIx_l, xIx_s, xIx_di, xIx_ds, at0, at1, at2, at3, at4, at5, at6, at7, xIs_nn, xIs_i, xIs_s, xIs_b, xIs_t, xIs_l, xIs_d, xIsB_n, xIsB_i, xIsB_s, xIsB_b, yInt_i, yInt_b, yInt_n, yInt_s, yInt_t, yInt_l, yBool_i, yBool_b, yBool_n, yBool_s, yBool_t, yBool_l, yStr_i, yStr_b, yStr_n, yStr_s, yStr_t, yStr_l, yTup_i, yTup_b, yTup_n, yTup_s, yTup_t, yTup_l, yLst_i, yLst_n, yLst_s, yLst_t, yLst_l, xIn_t, xIn_l, xIn_it, xIn_il, xIn_sd, xLt_pp, xGt_pp, xLe_pp, xGe_pp, xII, z0, z1, z2, zput0, zput1, zC, zV, zv_d, zv_l, zv_k, zOp, zUn, zlk_d, zlk_l, zlk_k, zlk_b, zls_d, zls_l, zls_k, zfz_d, zfz_l, zfz_k, zfz_b, zfr_l, zfr_k, zfr_d, ztB, zbk, ztT, ztr_b, ztr_i, ztr_n, ztr_t, ztr_l, ztr_s, ztAnd, ztOr, ztNot, zeAnd, zeOr, zeNot, zeIf, zaNil, zaCons, zTup, zLst, zCB, zCall, zCallK, zfdn, zDicK, zpNone, zpSome, zpsk, zSl, zChain, zchk, zSeq, zsNil, zBreak, zCont, zIf, zSet, zs_d, zs_l, zs_k, zs_b, zRet, zr_d, zr_l, zr_k, zr_b, zRetN, zDrop, zFor, ziE, zit_t, zit_l, zit_s, zR1, zr1, zR2, zr2, zgN, zAsg, zgT, zgsC, zgsN, zApp, zap0, zap, zLc, zclr, zclr2, zbck, zkeep_d, zkeep_n, zDP, zdp0, zdp, zky_i, zky_s, xSorted, xNe_bb, zPop, zpopk, zExt, zextk, zextk2, xUpper, xInW, xIxW, xLt_ss, xLe_ss, xGt_ss, xSl_t, xSl_l, xSl_s, zlNil, zlCons, zpin_d, zpin_l, zpin_k, zpin_b, zlkL0, zlkL1, zCallL, zimm_d, zimm_l, zimm_k, zimm_i, zimm_s, zimm_b, zimm_n, zimm_t, zimm_0, zimm_1, zSortSet, List.length_cons, List.length_nil, List.nil_append, List.append_nil, List.cons_append, true_and, and_true, reduceIte, if_true, if_false, decide_eq_true_eq, Bool.not_true, Bool.not_false, Bool.not_eq_true, Bool.false_eq_true, Nat.reduceAdd, Nat.zero_add, Bool.not_eq_false, decide_false, decide_true, Bool.not_eq_eq_eq_not, Bool.true_eq, decide_not, Bool.not_not, decide_eq_false_iff_not, eq_self]
  obtain ⟨y, e, hy⟩ := atD_in d0 d1
  rw [e]
  exact h y hy
theorem pname_loop {l : DL.D} : ∀ (ds : List DL.D) (x : Str) (n : Nat) (y : Sl), NmL n x → n + ds.length ≤ 39 → (∀ x y, NmL 39 x → Δ.nx ⟨[.d .dlr, .d l, .d (.str sg), .d (.str x), y], μ⟩) →
    forL (gN 4) B_p_law_name_0 Δ ds ⟨[.d .dlr, .d l, .d (.str sg), .d (.str x), y], μ⟩
  | [], x, n, y, hx, hn, h => h x y (hx.mono (by simpa using hn))
  | d :: ds, x, n, y, hx, hn, h => by
    simp only [List.length_cons] at hn
    have big : 1000 < sizeLine := by decide
    have l1 := hx.le
    have e1 := len_cps x
    simp only [forL_cons, B_p_law_name_0_eq, xEq_ii, xEq_ss, xEq_nn, xEq_bb, xEq_ni, xEq_in, xNe_ii, xNe_ss, xLt_ii, xGt_ii, xLe_ii, xGe_ii, xAdd_ii, xAdd_ss, xAdd_tt, xAdd_ll, xSub_ii, xMul_ii, xDiv_ii, xMod_ii, xPow_ii, xNeg_i, xInt_i, xInt_b, xLen_t, xLen_l, xLen_s, xLen_d, xTuple_l, xTuple_t, xList_l, xList_t, xIx_t, xIx_l, xIx_s, xIx_di, xIx_ds, at0, at1, at2, at3, at4, at5, at6, at7, xIs_nn, xIs_i, xIs_s, xIs_b, xIs_t, xIs_l, xIs_d, xIsB_n, xIsB_i, xIsB_s, xIsB_b, yInt_i, yInt_b, yInt_n, yInt_s, yInt_t, yInt_l, yBool_i, yBool_b, yBool_n, yBool_s, yBool_t, yBool_l, yStr_i, yStr_b, yStr_n, yStr_s, yStr_t, yStr_l, yTup_i, yTup_b, yTup_n, yTup_s, yTup_t, yTup_l, yLst_i, yLst_n, yLst_s, yLst_t, yLst_l, xIn_it, xIn_il, xIn_sd, xLt_pp, xGt_pp, xLe_pp, xGe_pp, xII, z0, z1, z2, zput0, zput1, zC, zV, zv_d, zv_l, zv_k, zOp, zUn, zlk_d, zlk_l, zlk_k, zlk_b, zls_d, zls_l, zls_k, zfz_d, zfz_l, zfz_k, zfz_b, zfr_l, zfr_k, zfr_d, ztB, zbk, ztT, ztr_b, ztr_i, ztr_n, ztr_t, ztr_l, ztr_s, ztAnd, ztOr, ztNot, zeAnd, zeOr, zeNot, zeIf, zaNil, zaCons, zTup, zLst, zCB, zCall, zCallK, zfdn, zDicK, zpNone, zpSome, zpsk, zSl, zChain, zchk, zSeq, zsNil, zBreak, zCont, zIf, zSet, zs_d, zs_l, zs_k, zs_b, zRet, zr_d, zr_l, zr_k, zr_b, zRetN, zDrop, zFor, ziE, zit_t, zit_l, zit_s, zR1, zr1, zR2, zr2, zgN, zAsg, zgT, zgsC, zgsN, zApp, zap0, zap, zLc, zclr, zclr2, zbck, zkeep_d, zkeep_n, zDP, zdp0, zdp, zky_i, zky_s, xSorted, xNe_bb, zPop, zpopk, zExt, zextk, zextk2, xUpper, xInW, xIxW, xLt_ss, xLe_ss, xGt_ss, xSl_t, xSl_l, xSl_s, zlNil, zlCons, zpin_d, zpin_l, zpin_k, zpin_b, zlkL0, zlkL1, zCallL, zimm_d, zimm_l, zimm_k, zimm_i, zimm_s, zimm_b, zimm_n, zimm_t, zimm_0, zimm_1, zSortSet, List.length_cons, List.length_nil, List.nil_append, List.append_nil, List.cons_append, true_and, and_true, reduceIte, if_true, if_false, decide_eq_true_eq, Bool.not_true, Bool.not_false, Bool.not_eq_true, Bool.false_eq_true, Nat.reduceAdd, Nat.zero_add, Bool.not_eq_false, decide_false, decide_true, Bool.not_eq_eq_eq_not, Bool.true_eq, decide_not, Bool.not_not, decide_eq_false_iff_not, eq_self, ln5, bg5]
    refine deal_ok (by decide) (by decide) fun i i0 i1 => ?_
    obtain ⟨c, ec, mc⟩ := sg_at i0 i1
    simp only [xEq_ii, xEq_ss, xEq_nn, xEq_bb, xEq_ni, xEq_in, xNe_ii, xNe_ss, xLt_ii, xGt_ii, xLe_ii, xGe_ii, xAdd_ii, xAdd_ss, xAdd_tt, xAdd_ll, xSub_ii, xMul_ii, xDiv_ii, xMod_ii, xPow_ii, xNeg_i, xInt_i, xInt_b, xLen_t, xLen_l, xLen_s, xLen_d, xTuple_l, xTuple_t, xList_l, xList_t, xIx_t, xIx_l, xIx_s, xIx_di, xIx_ds, at0, at1, at2, at3, at4, at5, at6, at7, xIs_nn, xIs_i, xIs_s, xIs_b, xIs_t, xIs_l, xIs_d, xIsB_n, xIsB_i, xIsB_s, xIsB_b, yInt_i, yInt_b, yInt_n, yInt_s, yInt_t, yInt_l, yBool_i, yBool_b, yBool_n, yBool_s, yBool_t, yBool_l, yStr_i, yStr_b, yStr_n, yStr_s, yStr_t, yStr_l, yTup_i, yTup_b, yTup_n, yTup_s, yTup_t, yTup_l, yLst_i, yLst_n, yLst_s, yLst_t, yLst_l, xIn_it, xIn_il, xIn_sd, xLt_pp, xGt_pp, xLe_pp, xGe_pp, xII, z0, z1, z2, zput0, zput1, zC, zV, zv_d, zv_l, zv_k, zOp, zUn, zlk_d, zlk_l, zlk_k, zlk_b, zls_d, zls_l, zls_k, zfz_d, zfz_l, zfz_k, zfz_b, zfr_l, zfr_k, zfr_d, ztB, zbk, ztT, ztr_b, ztr_i, ztr_n, ztr_t, ztr_l, ztr_s, ztAnd, ztOr, ztNot, zeAnd, zeOr, zeNot, zeIf, zaNil, zaCons, zTup, zLst, zCB, zCall, zCallK, zfdn, zDicK, zpNone, zpSome, zpsk, zSl, zChain, zchk, zSeq, zsNil, zBreak, zCont, zIf, zSet, zs_d, zs_l, zs_k, zs_b, zRet, zr_d, zr_l, zr_k, zr_b, zRetN, zDrop, zFor, ziE, zit_t, zit_l, zit_s, zR1, zr1, zR2, zr2, zgN, zAsg, zgT, zgsC, zgsN, zApp, zap0, zap, zLc, zclr, zclr2, zbck, zkeep_d, zkeep_n, zDP, zdp0, zdp, zky_i, zky_s, xSorted, xNe_bb, zPop, zpopk, zExt, zextk, zextk2, xUpper, xInW, xIxW, xLt_ss, xLe_ss, xGt_ss, xSl_t, xSl_l, xSl_s, zlNil, zlCons, zpin_d, zpin_l, zpin_k, zpin_b, zlkL0, zlkL1, zCallL, zimm_d, zimm_l, zimm_k, zimm_i, zimm_s, zimm_b, zimm_n, zimm_t, zimm_0, zimm_1, zSortSet, List.length_cons, List.length_nil, List.nil_append, List.append_nil, List.cons_append, true_and, and_true, reduceIte, if_true, if_false, decide_eq_true_eq, Bool.not_true, Bool.not_false, Bool.not_eq_true, Bool.false_eq_true, Nat.reduceAdd, Nat.zero_add, Bool.not_eq_false, decide_false, decide_true, Bool.not_eq_eq_eq_not, Bool.true_eq, decide_not, Bool.not_not, decide_eq_false_iff_not, eq_self, low_up, low_a1, low_a2, ln1, ln2, ln3, ln4, ln5, bg1, bg2, bg3, bg4, bg5, ec]
    refine ⟨by show x.length + 1 ≤ sizeLine; omega, ?_⟩
    exact pname_loop ds _ (n + 1) _ (hx.snoc mc (by omega)) (by omega) h
theorem pname_ok (h : ∀ x, NmL 39 x → R (.d (.str x)) μ) : fn_p_law_name [.dlr] μ R := by
  show Φ_p_law_name _ ⟨[.d .dlr, .no, .no, .no, .no], μ⟩
  simp only [Φ_p_law_name, xEq_ii, xEq_ss, xEq_nn, xEq_bb, xEq_ni, xEq_in, xNe_ii, xNe_ss, xLt_ii, xGt_ii, xLe_ii, xGe_ii, xAdd_ii, xAdd_ss, xAdd_tt, xAdd_ll, xSub_ii, xMul_ii, xDiv_ii, xMod_ii, xPow_ii, xNeg_i, xInt_i, xInt_b, xLen_t, xLen_l, xLen_s, xLen_d, xTuple_l, xTuple_t, xList_l, xList_t, xIx_t, xIx_l, xIx_s, xIx_di, xIx_ds, at0, at1, at2, at3, at4, at5, at6, at7, xIs_nn, xIs_i, xIs_s, xIs_b, xIs_t, xIs_l, xIs_d, xIsB_n, xIsB_i, xIsB_s, xIsB_b, yInt_i, yInt_b, yInt_n, yInt_s, yInt_t, yInt_l, yBool_i, yBool_b, yBool_n, yBool_s, yBool_t, yBool_l, yStr_i, yStr_b, yStr_n, yStr_s, yStr_t, yStr_l, yTup_i, yTup_b, yTup_n, yTup_s, yTup_t, yTup_l, yLst_i, yLst_n, yLst_s, yLst_t, yLst_l, xIn_it, xIn_il, xIn_sd, xLt_pp, xGt_pp, xLe_pp, xGe_pp, xII, z0, z1, z2, zput0, zput1, zC, zV, zv_d, zv_l, zv_k, zOp, zUn, zlk_d, zlk_l, zlk_k, zlk_b, zls_d, zls_l, zls_k, zfz_d, zfz_l, zfz_k, zfz_b, zfr_l, zfr_k, zfr_d, ztB, zbk, ztT, ztr_b, ztr_i, ztr_n, ztr_t, ztr_l, ztr_s, ztAnd, ztOr, ztNot, zeAnd, zeOr, zeNot, zeIf, zaNil, zaCons, zTup, zLst, zCB, zCall, zCallK, zfdn, zDicK, zpNone, zpSome, zpsk, zSl, zChain, zchk, zSeq, zsNil, zBreak, zCont, zIf, zSet, zs_d, zs_l, zs_k, zs_b, zRet, zr_d, zr_l, zr_k, zr_b, zRetN, zDrop, zFor, ziE, zit_t, zit_l, zit_s, zR1, zr1, zR2, zr2, zgN, zAsg, zgT, zgsC, zgsN, zApp, zap0, zap, zLc, zclr, zclr2, zbck, zkeep_d, zkeep_n, zDP, zdp0, zdp, zky_i, zky_s, xSorted, xNe_bb, zPop, zpopk, zExt, zextk, zextk2, xUpper, xInW, xIxW, xLt_ss, xLe_ss, xGt_ss, xSl_t, xSl_l, xSl_s, zlNil, zlCons, zpin_d, zpin_l, zpin_k, zpin_b, zlkL0, zlkL1, zCallL, zimm_d, zimm_l, zimm_k, zimm_i, zimm_s, zimm_b, zimm_n, zimm_t, zimm_0, zimm_1, zSortSet, List.length_cons, List.length_nil, List.nil_append, List.append_nil, List.cons_append, true_and, and_true, reduceIte, if_true, if_false, decide_eq_true_eq, Bool.not_true, Bool.not_false, Bool.not_eq_true, Bool.false_eq_true, Nat.reduceAdd, Nat.zero_add, Bool.not_eq_false, decide_false, decide_true, Bool.not_eq_eq_eq_not, Bool.true_eq, decide_not, Bool.not_not, decide_eq_false_iff_not, eq_self, low_up, low_a1, low_a2, ln1, ln2, ln3, ln4, ln5, bg1, bg2, bg3, bg4, bg5]
  refine deal_ok (by decide) (by decide) fun i i0 i1 => ?_
  obtain ⟨c, ec, mc⟩ := low_at i0 i1
  simp only [xEq_ii, xEq_ss, xEq_nn, xEq_bb, xEq_ni, xEq_in, xNe_ii, xNe_ss, xLt_ii, xGt_ii, xLe_ii, xGe_ii, xAdd_ii, xAdd_ss, xAdd_tt, xAdd_ll, xSub_ii, xMul_ii, xDiv_ii, xMod_ii, xPow_ii, xNeg_i, xInt_i, xInt_b, xLen_t, xLen_l, xLen_s, xLen_d, xTuple_l, xTuple_t, xList_l, xList_t, xIx_t, xIx_l, xIx_s, xIx_di, xIx_ds, at0, at1, at2, at3, at4, at5, at6, at7, xIs_nn, xIs_i, xIs_s, xIs_b, xIs_t, xIs_l, xIs_d, xIsB_n, xIsB_i, xIsB_s, xIsB_b, yInt_i, yInt_b, yInt_n, yInt_s, yInt_t, yInt_l, yBool_i, yBool_b, yBool_n, yBool_s, yBool_t, yBool_l, yStr_i, yStr_b, yStr_n, yStr_s, yStr_t, yStr_l, yTup_i, yTup_b, yTup_n, yTup_s, yTup_t, yTup_l, yLst_i, yLst_n, yLst_s, yLst_t, yLst_l, xIn_it, xIn_il, xIn_sd, xLt_pp, xGt_pp, xLe_pp, xGe_pp, xII, z0, z1, z2, zput0, zput1, zC, zV, zv_d, zv_l, zv_k, zOp, zUn, zlk_d, zlk_l, zlk_k, zlk_b, zls_d, zls_l, zls_k, zfz_d, zfz_l, zfz_k, zfz_b, zfr_l, zfr_k, zfr_d, ztB, zbk, ztT, ztr_b, ztr_i, ztr_n, ztr_t, ztr_l, ztr_s, ztAnd, ztOr, ztNot, zeAnd, zeOr, zeNot, zeIf, zaNil, zaCons, zTup, zLst, zCB, zCall, zCallK, zfdn, zDicK, zpNone, zpSome, zpsk, zSl, zChain, zchk, zSeq, zsNil, zBreak, zCont, zIf, zSet, zs_d, zs_l, zs_k, zs_b, zRet, zr_d, zr_l, zr_k, zr_b, zRetN, zDrop, zFor, ziE, zit_t, zit_l, zit_s, zR1, zr1, zR2, zr2, zgN, zAsg, zgT, zgsC, zgsN, zApp, zap0, zap, zLc, zclr, zclr2, zbck, zkeep_d, zkeep_n, zDP, zdp0, zdp, zky_i, zky_s, xSorted, xNe_bb, zPop, zpopk, zExt, zextk, zextk2, xUpper, xInW, xIxW, xLt_ss, xLe_ss, xGt_ss, xSl_t, xSl_l, xSl_s, zlNil, zlCons, zpin_d, zpin_l, zpin_k, zpin_b, zlkL0, zlkL1, zCallL, zimm_d, zimm_l, zimm_k, zimm_i, zimm_s, zimm_b, zimm_n, zimm_t, zimm_0, zimm_1, zSortSet, List.length_cons, List.length_nil, List.nil_append, List.append_nil, List.cons_append, true_and, and_true, reduceIte, if_true, if_false, decide_eq_true_eq, Bool.not_true, Bool.not_false, Bool.not_eq_true, Bool.false_eq_true, Nat.reduceAdd, Nat.zero_add, Bool.not_eq_false, decide_false, decide_true, Bool.not_eq_eq_eq_not, Bool.true_eq, decide_not, Bool.not_not, decide_eq_false_iff_not, eq_self, low_up, low_a1, low_a2, ln1, ln2, ln3, ln4, ln5, bg1, bg2, bg3, bg4, bg5, ec]
  refine ⟨by decide, one_p [0, 0, 1, 1, 2, 5, 38] (fun j => 0 ≤ j ∧ j ≤ 38) (by decide) fun j hj => ?_⟩
  simp only [xEq_ii, xEq_ss, xEq_nn, xEq_bb, xEq_ni, xEq_in, xNe_ii, xNe_ss, xLt_ii, xGt_ii, xLe_ii, xGe_ii, xAdd_ii, xAdd_ss, xAdd_tt, xAdd_ll, xSub_ii, xMul_ii, xDiv_ii, xMod_ii, xPow_ii, xNeg_i, xInt_i, xInt_b, xLen_t, xLen_l, xLen_s, xLen_d, xTuple_l, xTuple_t, xList_l, xList_t, xIx_t, xIx_l, xIx_s, xIx_di, xIx_ds, at0, at1, at2, at3, at4, at5, at6, at7, xIs_nn, xIs_i, xIs_s, xIs_b, xIs_t, xIs_l, xIs_d, xIsB_n, xIsB_i, xIsB_s, xIsB_b, yInt_i, yInt_b, yInt_n, yInt_s, yInt_t, yInt_l, yBool_i, yBool_b, yBool_n, yBool_s, yBool_t, yBool_l, yStr_i, yStr_b, yStr_n, yStr_s, yStr_t, yStr_l, yTup_i, yTup_b, yTup_n, yTup_s, yTup_t, yTup_l, yLst_i, yLst_n, yLst_s, yLst_t, yLst_l, xIn_it, xIn_il, xIn_sd, xLt_pp, xGt_pp, xLe_pp, xGe_pp, xII, z0, z1, z2, zput0, zput1, zC, zV, zv_d, zv_l, zv_k, zOp, zUn, zlk_d, zlk_l, zlk_k, zlk_b, zls_d, zls_l, zls_k, zfz_d, zfz_l, zfz_k, zfz_b, zfr_l, zfr_k, zfr_d, ztB, zbk, ztT, ztr_b, ztr_i, ztr_n, ztr_t, ztr_l, ztr_s, ztAnd, ztOr, ztNot, zeAnd, zeOr, zeNot, zeIf, zaNil, zaCons, zTup, zLst, zCB, zCall, zCallK, zfdn, zDicK, zpNone, zpSome, zpsk, zSl, zChain, zchk, zSeq, zsNil, zBreak, zCont, zIf, zSet, zs_d, zs_l, zs_k, zs_b, zRet, zr_d, zr_l, zr_k, zr_b, zRetN, zDrop, zFor, ziE, zit_t, zit_l, zit_s, zR1, zr1, zR2, zr2, zgN, zAsg, zgT, zgsC, zgsN, zApp, zap0, zap, zLc, zclr, zclr2, zbck, zkeep_d, zkeep_n, zDP, zdp0, zdp, zky_i, zky_s, xSorted, xNe_bb, zPop, zpopk, zExt, zextk, zextk2, xUpper, xInW, xIxW, xLt_ss, xLe_ss, xGt_ss, xSl_t, xSl_l, xSl_s, zlNil, zlCons, zpin_d, zpin_l, zpin_k, zpin_b, zlkL0, zlkL1, zCallL, zimm_d, zimm_l, zimm_k, zimm_i, zimm_s, zimm_b, zimm_n, zimm_t, zimm_0, zimm_1, zSortSet, List.length_cons, List.length_nil, List.nil_append, List.append_nil, List.cons_append, true_and, and_true, reduceIte, if_true, if_false, decide_eq_true_eq, Bool.not_true, Bool.not_false, Bool.not_eq_true, Bool.false_eq_true, Nat.reduceAdd, Nat.zero_add, Bool.not_eq_false, decide_false, decide_true, Bool.not_eq_eq_eq_not, Bool.true_eq, decide_not, Bool.not_not, decide_eq_false_iff_not, eq_self]
  refine ⟨⟨by omega, by omega⟩, pname_loop _ _ 1 _ (nm_one mc) (by unfold rng; simp; omega) fun x y hx => ?_⟩
  simp only [xEq_ii, xEq_ss, xEq_nn, xEq_bb, xEq_ni, xEq_in, xNe_ii, xNe_ss, xLt_ii, xGt_ii, xLe_ii, xGe_ii, xAdd_ii, xAdd_ss, xAdd_tt, xAdd_ll, xSub_ii, xMul_ii, xDiv_ii, xMod_ii, xPow_ii, xNeg_i, xInt_i, xInt_b, xLen_t, xLen_l, xLen_s, xLen_d, xTuple_l, xTuple_t, xList_l, xList_t, xIx_t, xIx_l, xIx_s, xIx_di, xIx_ds, at0, at1, at2, at3, at4, at5, at6, at7, xIs_nn, xIs_i, xIs_s, xIs_b, xIs_t, xIs_l, xIs_d, xIsB_n, xIsB_i, xIsB_s, xIsB_b, yInt_i, yInt_b, yInt_n, yInt_s, yInt_t, yInt_l, yBool_i, yBool_b, yBool_n, yBool_s, yBool_t, yBool_l, yStr_i, yStr_b, yStr_n, yStr_s, yStr_t, yStr_l, yTup_i, yTup_b, yTup_n, yTup_s, yTup_t, yTup_l, yLst_i, yLst_n, yLst_s, yLst_t, yLst_l, xIn_it, xIn_il, xIn_sd, xLt_pp, xGt_pp, xLe_pp, xGe_pp, xII, z0, z1, z2, zput0, zput1, zC, zV, zv_d, zv_l, zv_k, zOp, zUn, zlk_d, zlk_l, zlk_k, zlk_b, zls_d, zls_l, zls_k, zfz_d, zfz_l, zfz_k, zfz_b, zfr_l, zfr_k, zfr_d, ztB, zbk, ztT, ztr_b, ztr_i, ztr_n, ztr_t, ztr_l, ztr_s, ztAnd, ztOr, ztNot, zeAnd, zeOr, zeNot, zeIf, zaNil, zaCons, zTup, zLst, zCB, zCall, zCallK, zfdn, zDicK, zpNone, zpSome, zpsk, zSl, zChain, zchk, zSeq, zsNil, zBreak, zCont, zIf, zSet, zs_d, zs_l, zs_k, zs_b, zRet, zr_d, zr_l, zr_k, zr_b, zRetN, zDrop, zFor, ziE, zit_t, zit_l, zit_s, zR1, zr1, zR2, zr2, zgN, zAsg, zgT, zgsC, zgsN, zApp, zap0, zap, zLc, zclr, zclr2, zbck, zkeep_d, zkeep_n, zDP, zdp0, zdp, zky_i, zky_s, xSorted, xNe_bb, zPop, zpopk, zExt, zextk, zextk2, xUpper, xInW, xIxW, xLt_ss, xLe_ss, xGt_ss, xSl_t, xSl_l, xSl_s, zlNil, zlCons, zpin_d, zpin_l, zpin_k, zpin_b, zlkL0, zlkL1, zCallL, zimm_d, zimm_l, zimm_k, zimm_i, zimm_s, zimm_b, zimm_n, zimm_t, zimm_0, zimm_1, zSortSet, List.length_cons, List.length_nil, List.nil_append, List.append_nil, List.cons_append, true_and, and_true, reduceIte, if_true, if_false, decide_eq_true_eq, Bool.not_true, Bool.not_false, Bool.not_eq_true, Bool.false_eq_true, Nat.reduceAdd, Nat.zero_add, Bool.not_eq_false, decide_false, decide_true, Bool.not_eq_eq_eq_not, Bool.true_eq, decide_not, Bool.not_not, decide_eq_false_iff_not, eq_self]
  exact h x hx
/-! kin -/
theorem cut_take {x : Str} {k : Nat} : (cutS x none (some (k : Int))).cps.toList = x.cps.toList.take k := by
  unfold cutS
  rw [HT.sIx_none, HT.sIx_nat, len_cps]
  simp
theorem cut_drop {x : Str} {k : Nat} : (cutS x (some (k : Int)) none).cps.toList = x.cps.toList.drop k := by
  unfold cutS
  rw [HT.sIx_none, HT.sIx_nat, len_cps]
  show ((x.cps.toList.drop _).take _).toArray.toList = _
  rw [List.toList_toArray, List.take_of_length_le (by rw [List.length_drop]; omega)]
  by_cases c : k ≤ x.cps.toList.length
  · rw [Nat.min_eq_left c]
  · rw [Nat.min_eq_right (by omega), List.drop_of_length_le (by omega), List.drop_of_length_le (by omega)]
theorem kin_nm {n k c e : Nat} {x : Str} (h : NmL n x) (hk : 1 ≤ k) (hc : c ∈ signS.cps.toList) (hn : n < 499) : NmL (n + 1) (cutS x none (some (k : Int)) ++ ⟨#[c]⟩ ++ cutS x (some ((k + e : Nat) : Int)) none) := by
  have e1 : (cutS x none (some (k : Int)) ++ ⟨#[c]⟩ ++ cutS x (some ((k + e : Nat) : Int)) none : Str).cps.toList = x.cps.toList.take k ++ [c] ++ x.cps.toList.drop (k + e) := by
    rw [app_cps, app_cps, cut_take, cut_drop]
  have l := h.le
  have ll : (x.cps.toList.take k ++ [c] ++ x.cps.toList.drop (k + e)).length ≤ n + 1 := by
    simp only [List.length_append, List.length_take, List.length_drop, List.length_cons, List.length_nil]
    omega
  refine ⟨⟨?_, fun d hd => ?_, ?_⟩, ?_⟩
  · obtain ⟨b, r, e2, e3⟩ := h.nm.hd
    obtain ⟨k, rfl⟩ : ∃ j, k = j + 1 := ⟨k - 1, by omega⟩
    exact ⟨b, r.take k ++ [c] ++ x.cps.toList.drop (k + 1 + e), by rw [e1, e2]; rfl, e3⟩
  · rw [e1] at hd
    rcases List.mem_append.mp hd with hd | hd
    · rcases List.mem_append.mp hd with hd | hd
      · exact h.nm.all d (List.mem_of_mem_take hd)
      · rw [List.mem_singleton.mp hd]; exact hc
    · exact h.nm.all d (List.mem_of_mem_drop hd)
  · rw [e1]; omega
  · rw [e1]; exact ll
theorem kin_ok {n : Nat} {x : Str} (hx : NmL n x) (hn : n < 100) (h : ∀ y, NmL (n + 1) y → R (.d (.str y)) μ) : fn_p_law_kin [.dlr, .str x] μ R := by
  have big : 1000 < sizeLine := by decide
  have l1 := hx.le
  have e1 := len_cps x
  obtain ⟨b, r, eb, _⟩ := hx.nm.hd
  have pos : 0 < x.cps.toList.length := by rw [eb]; simp
  show Φ_p_law_kin _ ⟨[.d .dlr, .d (.str x), .no, .no, .no], μ⟩
  simp only [Φ_p_law_kin, xEq_ii, xEq_ss, xEq_nn, xEq_bb, xEq_ni, xEq_in, xNe_ii, xNe_ss, xLt_ii, xGt_ii, xLe_ii, xGe_ii, xAdd_ii, xAdd_ss, xAdd_tt, xAdd_ll, xSub_ii, xMul_ii, xDiv_ii, xMod_ii, xPow_ii, xNeg_i, xInt_i, xInt_b, xLen_t, xLen_l, xLen_s, xLen_d, xTuple_l, xTuple_t, xList_l, xList_t, xIx_t, xIx_l, xIx_s, xIx_di, xIx_ds, at0, at1, at2, at3, at4, at5, at6, at7, xIs_nn, xIs_i, xIs_s, xIs_b, xIs_t, xIs_l, xIs_d, xIsB_n, xIsB_i, xIsB_s, xIsB_b, yInt_i, yInt_b, yInt_n, yInt_s, yInt_t, yInt_l, yBool_i, yBool_b, yBool_n, yBool_s, yBool_t, yBool_l, yStr_i, yStr_b, yStr_n, yStr_s, yStr_t, yStr_l, yTup_i, yTup_b, yTup_n, yTup_s, yTup_t, yTup_l, yLst_i, yLst_n, yLst_s, yLst_t, yLst_l, xIn_it, xIn_il, xIn_sd, xLt_pp, xGt_pp, xLe_pp, xGe_pp, xII, z0, z1, z2, zput0, zput1, zC, zV, zv_d, zv_l, zv_k, zOp, zUn, zlk_d, zlk_l, zlk_k, zlk_b, zls_d, zls_l, zls_k, zfz_d, zfz_l, zfz_k, zfz_b, zfr_l, zfr_k, zfr_d, ztB, zbk, ztT, ztr_b, ztr_i, ztr_n, ztr_t, ztr_l, ztr_s, ztAnd, ztOr, ztNot, zeAnd, zeOr, zeNot, zeIf, zaNil, zaCons, zTup, zLst, zCB, zCall, zCallK, zfdn, zDicK, zpNone, zpSome, zpsk, zSl, zChain, zchk, zSeq, zsNil, zBreak, zCont, zIf, zSet, zs_d, zs_l, zs_k, zs_b, zRet, zr_d, zr_l, zr_k, zr_b, zRetN, zDrop, zFor, ziE, zit_t, zit_l, zit_s, zR1, zr1, zR2, zr2, zgN, zAsg, zgT, zgsC, zgsN, zApp, zap0, zap, zLc, zclr, zclr2, zbck, zkeep_d, zkeep_n, zDP, zdp0, zdp, zky_i, zky_s, xSorted, xNe_bb, zPop, zpopk, zExt, zextk, zextk2, xUpper, xInW, xIxW, xLt_ss, xLe_ss, xGt_ss, xSl_t, xSl_l, xSl_s, zlNil, zlCons, zpin_d, zpin_l, zpin_k, zpin_b, zlkL0, zlkL1, zCallL, zimm_d, zimm_l, zimm_k, zimm_i, zimm_s, zimm_b, zimm_n, zimm_t, zimm_0, zimm_1, zSortSet, List.length_cons, List.length_nil, List.nil_append, List.append_nil, List.cons_append, true_and, and_true, reduceIte, if_true, if_false, decide_eq_true_eq, Bool.not_true, Bool.not_false, Bool.not_eq_true, Bool.false_eq_true, Nat.reduceAdd, Nat.zero_add, Bool.not_eq_false, decide_false, decide_true, Bool.not_eq_eq_eq_not, Bool.true_eq, decide_not, Bool.not_not, decide_eq_false_iff_not, eq_self, low_up, low_a1, low_a2, ln1, ln2, ln3, ln4, ln5, bg1, bg2, bg3, bg4, bg5]
  refine deal_ok (by decide) (by decide) fun i i0 i1 => ?_
  obtain ⟨c, ec, mc⟩ := sg_at i0 i1
  simp only [xEq_ii, xEq_ss, xEq_nn, xEq_bb, xEq_ni, xEq_in, xNe_ii, xNe_ss, xLt_ii, xGt_ii, xLe_ii, xGe_ii, xAdd_ii, xAdd_ss, xAdd_tt, xAdd_ll, xSub_ii, xMul_ii, xDiv_ii, xMod_ii, xPow_ii, xNeg_i, xInt_i, xInt_b, xLen_t, xLen_l, xLen_s, xLen_d, xTuple_l, xTuple_t, xList_l, xList_t, xIx_t, xIx_l, xIx_s, xIx_di, xIx_ds, at0, at1, at2, at3, at4, at5, at6, at7, xIs_nn, xIs_i, xIs_s, xIs_b, xIs_t, xIs_l, xIs_d, xIsB_n, xIsB_i, xIsB_s, xIsB_b, yInt_i, yInt_b, yInt_n, yInt_s, yInt_t, yInt_l, yBool_i, yBool_b, yBool_n, yBool_s, yBool_t, yBool_l, yStr_i, yStr_b, yStr_n, yStr_s, yStr_t, yStr_l, yTup_i, yTup_b, yTup_n, yTup_s, yTup_t, yTup_l, yLst_i, yLst_n, yLst_s, yLst_t, yLst_l, xIn_it, xIn_il, xIn_sd, xLt_pp, xGt_pp, xLe_pp, xGe_pp, xII, z0, z1, z2, zput0, zput1, zC, zV, zv_d, zv_l, zv_k, zOp, zUn, zlk_d, zlk_l, zlk_k, zlk_b, zls_d, zls_l, zls_k, zfz_d, zfz_l, zfz_k, zfz_b, zfr_l, zfr_k, zfr_d, ztB, zbk, ztT, ztr_b, ztr_i, ztr_n, ztr_t, ztr_l, ztr_s, ztAnd, ztOr, ztNot, zeAnd, zeOr, zeNot, zeIf, zaNil, zaCons, zTup, zLst, zCB, zCall, zCallK, zfdn, zDicK, zpNone, zpSome, zpsk, zSl, zChain, zchk, zSeq, zsNil, zBreak, zCont, zIf, zSet, zs_d, zs_l, zs_k, zs_b, zRet, zr_d, zr_l, zr_k, zr_b, zRetN, zDrop, zFor, ziE, zit_t, zit_l, zit_s, zR1, zr1, zR2, zr2, zgN, zAsg, zgT, zgsC, zgsN, zApp, zap0, zap, zLc, zclr, zclr2, zbck, zkeep_d, zkeep_n, zDP, zdp0, zdp, zky_i, zky_s, xSorted, xNe_bb, zPop, zpopk, zExt, zextk, zextk2, xUpper, xInW, xIxW, xLt_ss, xLe_ss, xGt_ss, xSl_t, xSl_l, xSl_s, zlNil, zlCons, zpin_d, zpin_l, zpin_k, zpin_b, zlkL0, zlkL1, zCallL, zimm_d, zimm_l, zimm_k, zimm_i, zimm_s, zimm_b, zimm_n, zimm_t, zimm_0, zimm_1, zSortSet, List.length_cons, List.length_nil, List.nil_append, List.append_nil, List.cons_append, true_and, and_true, reduceIte, if_true, if_false, decide_eq_true_eq, Bool.not_true, Bool.not_false, Bool.not_eq_true, Bool.false_eq_true, Nat.reduceAdd, Nat.zero_add, Bool.not_eq_false, decide_false, decide_true, Bool.not_eq_eq_eq_not, Bool.true_eq, decide_not, Bool.not_not, decide_eq_false_iff_not, eq_self, low_up, low_a1, low_a2, ln1, ln2, ln3, ln4, ln5, bg1, bg2, bg3, bg4, bg5, ec]
  refine ⟨by omega, deal_ok (by omega) (by omega) fun k k0 k1 => ?_⟩
  simp only [xEq_ii, xEq_ss, xEq_nn, xEq_bb, xEq_ni, xEq_in, xNe_ii, xNe_ss, xLt_ii, xGt_ii, xLe_ii, xGe_ii, xAdd_ii, xAdd_ss, xAdd_tt, xAdd_ll, xSub_ii, xMul_ii, xDiv_ii, xMod_ii, xPow_ii, xNeg_i, xInt_i, xInt_b, xLen_t, xLen_l, xLen_s, xLen_d, xTuple_l, xTuple_t, xList_l, xList_t, xIx_t, xIx_l, xIx_s, xIx_di, xIx_ds, at0, at1, at2, at3, at4, at5, at6, at7, xIs_nn, xIs_i, xIs_s, xIs_b, xIs_t, xIs_l, xIs_d, xIsB_n, xIsB_i, xIsB_s, xIsB_b, yInt_i, yInt_b, yInt_n, yInt_s, yInt_t, yInt_l, yBool_i, yBool_b, yBool_n, yBool_s, yBool_t, yBool_l, yStr_i, yStr_b, yStr_n, yStr_s, yStr_t, yStr_l, yTup_i, yTup_b, yTup_n, yTup_s, yTup_t, yTup_l, yLst_i, yLst_n, yLst_s, yLst_t, yLst_l, xIn_it, xIn_il, xIn_sd, xLt_pp, xGt_pp, xLe_pp, xGe_pp, xII, z0, z1, z2, zput0, zput1, zC, zV, zv_d, zv_l, zv_k, zOp, zUn, zlk_d, zlk_l, zlk_k, zlk_b, zls_d, zls_l, zls_k, zfz_d, zfz_l, zfz_k, zfz_b, zfr_l, zfr_k, zfr_d, ztB, zbk, ztT, ztr_b, ztr_i, ztr_n, ztr_t, ztr_l, ztr_s, ztAnd, ztOr, ztNot, zeAnd, zeOr, zeNot, zeIf, zaNil, zaCons, zTup, zLst, zCB, zCall, zCallK, zfdn, zDicK, zpNone, zpSome, zpsk, zSl, zChain, zchk, zSeq, zsNil, zBreak, zCont, zIf, zSet, zs_d, zs_l, zs_k, zs_b, zRet, zr_d, zr_l, zr_k, zr_b, zRetN, zDrop, zFor, ziE, zit_t, zit_l, zit_s, zR1, zr1, zR2, zr2, zgN, zAsg, zgT, zgsC, zgsN, zApp, zap0, zap, zLc, zclr, zclr2, zbck, zkeep_d, zkeep_n, zDP, zdp0, zdp, zky_i, zky_s, xSorted, xNe_bb, zPop, zpopk, zExt, zextk, zextk2, xUpper, xInW, xIxW, xLt_ss, xLe_ss, xGt_ss, xSl_t, xSl_l, xSl_s, zlNil, zlCons, zpin_d, zpin_l, zpin_k, zpin_b, zlkL0, zlkL1, zCallL, zimm_d, zimm_l, zimm_k, zimm_i, zimm_s, zimm_b, zimm_n, zimm_t, zimm_0, zimm_1, zSortSet, List.length_cons, List.length_nil, List.nil_append, List.append_nil, List.cons_append, true_and, and_true, reduceIte, if_true, if_false, decide_eq_true_eq, Bool.not_true, Bool.not_false, Bool.not_eq_true, Bool.false_eq_true, Nat.reduceAdd, Nat.zero_add, Bool.not_eq_false, decide_false, decide_true, Bool.not_eq_eq_eq_not, Bool.true_eq, decide_not, Bool.not_not, decide_eq_false_iff_not, eq_self]
  obtain ⟨k, rfl⟩ := Int.eq_ofNat_of_zero_le k0
  rw [show (1 : Int) + (k : Int) = ((k + 1 : Nat) : Int) from by omega]
  have t1 : (cutS x none (some ((k + 1 : Nat) : Int))).length = (k + 1) := by
    rw [len_cps, cut_take, List.length_take]
    omega
  refine ⟨by omega, by rw [t1]; show k + 1 + 1 ≤ sizeLine; omega, deal_ok (by decide) (by decide) fun e e0 e2 => ?_⟩
  simp only [xEq_ii, xEq_ss, xEq_nn, xEq_bb, xEq_ni, xEq_in, xNe_ii, xNe_ss, xLt_ii, xGt_ii, xLe_ii, xGe_ii, xAdd_ii, xAdd_ss, xAdd_tt, xAdd_ll, xSub_ii, xMul_ii, xDiv_ii, xMod_ii, xPow_ii, xNeg_i, xInt_i, xInt_b, xLen_t, xLen_l, xLen_s, xLen_d, xTuple_l, xTuple_t, xList_l, xList_t, xIx_t, xIx_l, xIx_s, xIx_di, xIx_ds, at0, at1, at2, at3, at4, at5, at6, at7, xIs_nn, xIs_i, xIs_s, xIs_b, xIs_t, xIs_l, xIs_d, xIsB_n, xIsB_i, xIsB_s, xIsB_b, yInt_i, yInt_b, yInt_n, yInt_s, yInt_t, yInt_l, yBool_i, yBool_b, yBool_n, yBool_s, yBool_t, yBool_l, yStr_i, yStr_b, yStr_n, yStr_s, yStr_t, yStr_l, yTup_i, yTup_b, yTup_n, yTup_s, yTup_t, yTup_l, yLst_i, yLst_n, yLst_s, yLst_t, yLst_l, xIn_it, xIn_il, xIn_sd, xLt_pp, xGt_pp, xLe_pp, xGe_pp, xII, z0, z1, z2, zput0, zput1, zC, zV, zv_d, zv_l, zv_k, zOp, zUn, zlk_d, zlk_l, zlk_k, zlk_b, zls_d, zls_l, zls_k, zfz_d, zfz_l, zfz_k, zfz_b, zfr_l, zfr_k, zfr_d, ztB, zbk, ztT, ztr_b, ztr_i, ztr_n, ztr_t, ztr_l, ztr_s, ztAnd, ztOr, ztNot, zeAnd, zeOr, zeNot, zeIf, zaNil, zaCons, zTup, zLst, zCB, zCall, zCallK, zfdn, zDicK, zpNone, zpSome, zpsk, zSl, zChain, zchk, zSeq, zsNil, zBreak, zCont, zIf, zSet, zs_d, zs_l, zs_k, zs_b, zRet, zr_d, zr_l, zr_k, zr_b, zRetN, zDrop, zFor, ziE, zit_t, zit_l, zit_s, zR1, zr1, zR2, zr2, zgN, zAsg, zgT, zgsC, zgsN, zApp, zap0, zap, zLc, zclr, zclr2, zbck, zkeep_d, zkeep_n, zDP, zdp0, zdp, zky_i, zky_s, xSorted, xNe_bb, zPop, zpopk, zExt, zextk, zextk2, xUpper, xInW, xIxW, xLt_ss, xLe_ss, xGt_ss, xSl_t, xSl_l, xSl_s, zlNil, zlCons, zpin_d, zpin_l, zpin_k, zpin_b, zlkL0, zlkL1, zCallL, zimm_d, zimm_l, zimm_k, zimm_i, zimm_s, zimm_b, zimm_n, zimm_t, zimm_0, zimm_1, zSortSet, List.length_cons, List.length_nil, List.nil_append, List.append_nil, List.cons_append, true_and, and_true, reduceIte, if_true, if_false, decide_eq_true_eq, Bool.not_true, Bool.not_false, Bool.not_eq_true, Bool.false_eq_true, Nat.reduceAdd, Nat.zero_add, Bool.not_eq_false, decide_false, decide_true, Bool.not_eq_eq_eq_not, Bool.true_eq, decide_not, Bool.not_not, decide_eq_false_iff_not, eq_self]
  obtain ⟨e, rfl⟩ := Int.eq_ofNat_of_zero_le e0
  rw [show ((k + 1 : Nat) : Int) + (e : Int) = ((k + 1 + e : Nat) : Int) from by omega]
  have := kin_nm (k := k + 1) (e := e) hx (by omega) mc (by omega)
  refine ⟨by omega, ?_, h _ this⟩
  have t2 : (cutS x (some ((k + 1 + e : Nat) : Int)) none).length ≤ 100 := by
    rw [len_cps, cut_drop, List.length_drop]
    omega
  have t3 : (cutS x none (some ((k + 1 : Nat) : Int)) ++ (⟨#[c]⟩ : Str)).length ≤ 200 := by
    rw [len_cps, app_cps, List.length_append, cut_take, List.length_take]
    simp
    omega
  omega
/-! the pool -/
def poolB (n m : Nat) (xs : List Str) : Prop := xs ≠ [] ∧ xs.length ≤ m ∧ xs.Nodup ∧ ∀ x ∈ xs, NmL n x
theorem pool_loop {m : Nat} (hm : m < 100) : ∀ (ds : List DL.D) (xs : List Str) (n : Nat) (y3 y4 : Sl), 39 ≤ n → n + ds.length ≤ 60 → poolB n m xs → (∀ xs y3 y4, poolB 60 m xs → Δ.nx ⟨[.d .dlr, .d (.int m), .l (xs.map D.str), y3, y4], fun _ => none⟩) →
    forL (gN 3) B_p_law_pool_0 Δ ds ⟨[.d .dlr, .d (.int m), .l (xs.map D.str), y3, y4], fun _ => none⟩
  | [], xs, n, y3, y4, h39, hn, hp, h => h xs _ _ ⟨hp.1, hp.2.1, hp.2.2.1, fun x hx => (hp.2.2.2 x hx).mono (by simpa using hn)⟩
  | d :: ds, xs, n, y3, y4, h39, hn, hp, h => by
    simp only [List.length_cons] at hn
    have hp1 : poolB (n + 1) m xs := ⟨hp.1, hp.2.1, hp.2.2.1, fun x hx => (hp.2.2.2 x hx).mono (by omega)⟩
    have big : 1000 < sizeLine := by decide
    have l0 : 0 < xs.length := by
      cases xs with
      | nil => exact absurd rfl hp.1
      | cons a l => simp
    have lm := hp.2.1
    have go : ∀ {z : Str} {y3 : Sl}, NmL (n + 1) z → forL (gN 3) B_p_law_pool_0 Δ ds ⟨[.d .dlr, .d (.int m), .l ((xs ++ [z]).map D.str), y3, .d (.str z)], fun _ => none⟩ ∨ z ∈ xs ∨ m ≤ xs.length := fun {z y3} hz => by
      by_cases h1 : z ∈ xs
      · exact .inr (.inl h1)
      · by_cases h2 : m ≤ xs.length
        · exact .inr (.inr h2)
        · refine .inl (pool_loop hm ds _ (n + 1) _ _ (by omega) (by omega) ⟨by simp, by simp; omega, ?_, fun x hx => ?_⟩ h)
          · rw [List.nodup_append]
            refine ⟨hp.2.2.1, by simp, fun a ha b hb => ?_⟩
            rw [List.mem_singleton.mp hb]
            exact fun e => h1 (e ▸ ha)
          · rcases List.mem_append.mp hx with hx | hx
            · exact hp1.2.2.2 x hx
            · rw [List.mem_singleton.mp hx]; exact hz
    have any_iff : ∀ z : Str, (xs.any (· == z)) = decide (z ∈ xs) := fun z => by
      rw [Bool.eq_iff_iff, List.any_eq_true, decide_eq_true_eq]
      exact ⟨fun ⟨a, ha, e⟩ => (beq_iff_eq.mp e) ▸ ha, fun h => ⟨z, h, beq_self_eq_true _⟩⟩
    have fin : ∀ {z : Str} {y3 : Sl}, NmL (n + 1) z → ((if (xs.length : Int) < (m : Int) then if z ∉ xs then (xs.length < sizeLine ∧ forL (gN 3) B_p_law_pool_0 Δ ds ⟨[.d .dlr, .d (.int m), .l ((xs.map D.str) ++ [.str z]), y3, .d (.str z)], fun _ => none⟩) else forL (gN 3) B_p_law_pool_0 Δ ds ⟨[.d .dlr, .d (.int m), .l (xs.map D.str), y3, .d (.str z)], fun _ => none⟩ else forL (gN 3) B_p_law_pool_0 Δ ds ⟨[.d .dlr, .d (.int m), .l (xs.map D.str), y3, .d (.str z)], fun _ => none⟩) : Prop) := fun {z y3} hz => by
      have stay := pool_loop hm ds xs (n + 1) y3 (.d (.str z)) (by omega) (by omega) hp1 h
      by_cases h2 : (xs.length : Int) < (m : Int)
      · rw [if_pos h2]
        by_cases h1 : z ∈ xs
        · rw [if_neg (fun q => q h1)]
          exact stay
        · rw [if_pos h1]
          refine ⟨by omega, ?_⟩
          rcases go (y3 := y3) hz with q | q | q
          · rw [List.map_append] at q; exact q
          · exact absurd q h1
          · omega
      · rw [if_neg h2]
        exact stay
    simp only [forL_cons, B_p_law_pool_0_eq, xEq_ii, xEq_ss, xEq_nn, xEq_bb, xEq_ni, xEq_in, xNe_ii, xNe_ss, xLt_ii, xGt_ii, xLe_ii, xGe_ii, xAdd_ii, xAdd_ss, xAdd_tt, xAdd_ll, xSub_ii, xMul_ii, xDiv_ii, xMod_ii, xPow_ii, xNeg_i, xInt_i, xInt_b, xLen_t, xLen_l, xLen_s, xLen_d, xTuple_l, xTuple_t, xList_l, xList_t, xIx_t, xIx_l, xIx_s, xIx_di, xIx_ds, at0, at1, at2, at3, at4, at5, at6, at7, xIs_nn, xIs_i, xIs_s, xIs_b, xIs_t, xIs_l, xIs_d, xIsB_n, xIsB_i, xIsB_s, xIsB_b, yInt_i, yInt_b, yInt_n, yInt_s, yInt_t, yInt_l, yBool_i, yBool_b, yBool_n, yBool_s, yBool_t, yBool_l, yStr_i, yStr_b, yStr_n, yStr_s, yStr_t, yStr_l, yTup_i, yTup_b, yTup_n, yTup_s, yTup_t, yTup_l, yLst_i, yLst_n, yLst_s, yLst_t, yLst_l, xIn_it, xIn_il, xIn_sd, xLt_pp, xGt_pp, xLe_pp, xGe_pp, xII, z0, z1, z2, zput0, zput1, zC, zV, zv_d, zv_l, zv_k, zOp, zUn, zlk_d, zlk_l, zlk_k, zlk_b, zls_d, zls_l, zls_k, zfz_d, zfz_l, zfz_k, zfz_b, zfr_l, zfr_k, zfr_d, ztB, zbk, ztT, ztr_b, ztr_i, ztr_n, ztr_t, ztr_l, ztr_s, ztAnd, ztOr, ztNot, zeAnd, zeOr, zeNot, zeIf, zaNil, zaCons, zTup, zLst, zCB, zCall, zCallK, zfdn, zDicK, zpNone, zpSome, zpsk, zSl, zChain, zchk, zSeq, zsNil, zBreak, zCont, zIf, zSet, zs_d, zs_l, zs_k, zs_b, zRet, zr_d, zr_l, zr_k, zr_b, zRetN, zDrop, zFor, ziE, zit_t, zit_l, zit_s, zR1, zr1, zR2, zr2, zgN, zAsg, zgT, zgsC, zgsN, zApp, zap0, zap, zLc, zclr, zclr2, zbck, zkeep_d, zkeep_n, zDP, zdp0, zdp, zky_i, zky_s, xSorted, xNe_bb, zPop, zpopk, zExt, zextk, zextk2, xUpper, xInW, xIxW, xLt_ss, xLe_ss, xGt_ss, xSl_t, xSl_l, xSl_s, zlNil, zlCons, zpin_d, zpin_l, zpin_k, zpin_b, zlkL0, zlkL1, zCallL, zimm_d, zimm_l, zimm_k, zimm_i, zimm_s, zimm_b, zimm_n, zimm_t, zimm_0, zimm_1, zSortSet, List.length_cons, List.length_nil, List.nil_append, List.append_nil, List.cons_append, true_and, and_true, reduceIte, if_true, if_false, decide_eq_true_eq, Bool.not_true, Bool.not_false, Bool.not_eq_true, Bool.false_eq_true, Nat.reduceAdd, Nat.zero_add, Bool.not_eq_false, decide_false, decide_true, Bool.not_eq_eq_eq_not, Bool.true_eq, decide_not, Bool.not_not, decide_eq_false_iff_not, eq_self]
    refine deal_ok (by decide) (by decide) fun i i0 i1 => ?_
    simp only [xEq_ii, xEq_ss, xEq_nn, xEq_bb, xEq_ni, xEq_in, xNe_ii, xNe_ss, xLt_ii, xGt_ii, xLe_ii, xGe_ii, xAdd_ii, xAdd_ss, xAdd_tt, xAdd_ll, xSub_ii, xMul_ii, xDiv_ii, xMod_ii, xPow_ii, xNeg_i, xInt_i, xInt_b, xLen_t, xLen_l, xLen_s, xLen_d, xTuple_l, xTuple_t, xList_l, xList_t, xIx_t, xIx_l, xIx_s, xIx_di, xIx_ds, at0, at1, at2, at3, at4, at5, at6, at7, xIs_nn, xIs_i, xIs_s, xIs_b, xIs_t, xIs_l, xIs_d, xIsB_n, xIsB_i, xIsB_s, xIsB_b, yInt_i, yInt_b, yInt_n, yInt_s, yInt_t, yInt_l, yBool_i, yBool_b, yBool_n, yBool_s, yBool_t, yBool_l, yStr_i, yStr_b, yStr_n, yStr_s, yStr_t, yStr_l, yTup_i, yTup_b, yTup_n, yTup_s, yTup_t, yTup_l, yLst_i, yLst_n, yLst_s, yLst_t, yLst_l, xIn_it, xIn_il, xIn_sd, xLt_pp, xGt_pp, xLe_pp, xGe_pp, xII, z0, z1, z2, zput0, zput1, zC, zV, zv_d, zv_l, zv_k, zOp, zUn, zlk_d, zlk_l, zlk_k, zlk_b, zls_d, zls_l, zls_k, zfz_d, zfz_l, zfz_k, zfz_b, zfr_l, zfr_k, zfr_d, ztB, zbk, ztT, ztr_b, ztr_i, ztr_n, ztr_t, ztr_l, ztr_s, ztAnd, ztOr, ztNot, zeAnd, zeOr, zeNot, zeIf, zaNil, zaCons, zTup, zLst, zCB, zCall, zCallK, zfdn, zDicK, zpNone, zpSome, zpsk, zSl, zChain, zchk, zSeq, zsNil, zBreak, zCont, zIf, zSet, zs_d, zs_l, zs_k, zs_b, zRet, zr_d, zr_l, zr_k, zr_b, zRetN, zDrop, zFor, ziE, zit_t, zit_l, zit_s, zR1, zr1, zR2, zr2, zgN, zAsg, zgT, zgsC, zgsN, zApp, zap0, zap, zLc, zclr, zclr2, zbck, zkeep_d, zkeep_n, zDP, zdp0, zdp, zky_i, zky_s, xSorted, xNe_bb, zPop, zpopk, zExt, zextk, zextk2, xUpper, xInW, xIxW, xLt_ss, xLe_ss, xGt_ss, xSl_t, xSl_l, xSl_s, zlNil, zlCons, zpin_d, zpin_l, zpin_k, zpin_b, zlkL0, zlkL1, zCallL, zimm_d, zimm_l, zimm_k, zimm_i, zimm_s, zimm_b, zimm_n, zimm_t, zimm_0, zimm_1, zSortSet, List.length_cons, List.length_nil, List.nil_append, List.append_nil, List.cons_append, true_and, and_true, reduceIte, if_true, if_false, decide_eq_true_eq, Bool.not_true, Bool.not_false, Bool.not_eq_true, Bool.false_eq_true, Nat.reduceAdd, Nat.zero_add, Bool.not_eq_false, decide_false, decide_true, Bool.not_eq_eq_eq_not, Bool.true_eq, decide_not, Bool.not_not, decide_eq_false_iff_not, eq_self]
    by_cases hi : i = 0
    · rw [if_pos hi]
      refine one_l (by simpa using l0) (by rw [List.length_map]; omega) fun d hd => ?_
      obtain ⟨x, hx, rfl⟩ := List.mem_map.mp hd
      simp only [xEq_ii, xEq_ss, xEq_nn, xEq_bb, xEq_ni, xEq_in, xNe_ii, xNe_ss, xLt_ii, xGt_ii, xLe_ii, xGe_ii, xAdd_ii, xAdd_ss, xAdd_tt, xAdd_ll, xSub_ii, xMul_ii, xDiv_ii, xMod_ii, xPow_ii, xNeg_i, xInt_i, xInt_b, xLen_t, xLen_l, xLen_s, xLen_d, xTuple_l, xTuple_t, xList_l, xList_t, xIx_t, xIx_l, xIx_s, xIx_di, xIx_ds, at0, at1, at2, at3, at4, at5, at6, at7, xIs_nn, xIs_i, xIs_s, xIs_b, xIs_t, xIs_l, xIs_d, xIsB_n, xIsB_i, xIsB_s, xIsB_b, yInt_i, yInt_b, yInt_n, yInt_s, yInt_t, yInt_l, yBool_i, yBool_b, yBool_n, yBool_s, yBool_t, yBool_l, yStr_i, yStr_b, yStr_n, yStr_s, yStr_t, yStr_l, yTup_i, yTup_b, yTup_n, yTup_s, yTup_t, yTup_l, yLst_i, yLst_n, yLst_s, yLst_t, yLst_l, xIn_it, xIn_il, xIn_sd, xLt_pp, xGt_pp, xLe_pp, xGe_pp, xII, z0, z1, z2, zput0, zput1, zC, zV, zv_d, zv_l, zv_k, zOp, zUn, zlk_d, zlk_l, zlk_k, zlk_b, zls_d, zls_l, zls_k, zfz_d, zfz_l, zfz_k, zfz_b, zfr_l, zfr_k, zfr_d, ztB, zbk, ztT, ztr_b, ztr_i, ztr_n, ztr_t, ztr_l, ztr_s, ztAnd, ztOr, ztNot, zeAnd, zeOr, zeNot, zeIf, zaNil, zaCons, zTup, zLst, zCB, zCall, zCallK, zfdn, zDicK, zpNone, zpSome, zpsk, zSl, zChain, zchk, zSeq, zsNil, zBreak, zCont, zIf, zSet, zs_d, zs_l, zs_k, zs_b, zRet, zr_d, zr_l, zr_k, zr_b, zRetN, zDrop, zFor, ziE, zit_t, zit_l, zit_s, zR1, zr1, zR2, zr2, zgN, zAsg, zgT, zgsC, zgsN, zApp, zap0, zap, zLc, zclr, zclr2, zbck, zkeep_d, zkeep_n, zDP, zdp0, zdp, zky_i, zky_s, xSorted, xNe_bb, zPop, zpopk, zExt, zextk, zextk2, xUpper, xInW, xIxW, xLt_ss, xLe_ss, xGt_ss, xSl_t, xSl_l, xSl_s, zlNil, zlCons, zpin_d, zpin_l, zpin_k, zpin_b, zlkL0, zlkL1, zCallL, zimm_d, zimm_l, zimm_k, zimm_i, zimm_s, zimm_b, zimm_n, zimm_t, zimm_0, zimm_1, zSortSet, List.length_cons, List.length_nil, List.nil_append, List.append_nil, List.cons_append, true_and, and_true, reduceIte, if_true, if_false, decide_eq_true_eq, Bool.not_true, Bool.not_false, Bool.not_eq_true, Bool.false_eq_true, Nat.reduceAdd, Nat.zero_add, Bool.not_eq_false, decide_false, decide_true, Bool.not_eq_eq_eq_not, Bool.true_eq, decide_not, Bool.not_not, decide_eq_false_iff_not, eq_self]
      refine kin_ok (hp.2.2.2 x hx) (by omega) fun z hz => ?_
      simp only [xEq_ii, xEq_ss, xEq_nn, xEq_bb, xEq_ni, xEq_in, xNe_ii, xNe_ss, xLt_ii, xGt_ii, xLe_ii, xGe_ii, xAdd_ii, xAdd_ss, xAdd_tt, xAdd_ll, xSub_ii, xMul_ii, xDiv_ii, xMod_ii, xPow_ii, xNeg_i, xInt_i, xInt_b, xLen_t, xLen_l, xLen_s, xLen_d, xTuple_l, xTuple_t, xList_l, xList_t, xIx_t, xIx_l, xIx_s, xIx_di, xIx_ds, at0, at1, at2, at3, at4, at5, at6, at7, xIs_nn, xIs_i, xIs_s, xIs_b, xIs_t, xIs_l, xIs_d, xIsB_n, xIsB_i, xIsB_s, xIsB_b, yInt_i, yInt_b, yInt_n, yInt_s, yInt_t, yInt_l, yBool_i, yBool_b, yBool_n, yBool_s, yBool_t, yBool_l, yStr_i, yStr_b, yStr_n, yStr_s, yStr_t, yStr_l, yTup_i, yTup_b, yTup_n, yTup_s, yTup_t, yTup_l, yLst_i, yLst_n, yLst_s, yLst_t, yLst_l, xIn_it, xIn_il, xIn_sd, xLt_pp, xGt_pp, xLe_pp, xGe_pp, xII, z0, z1, z2, zput0, zput1, zC, zV, zv_d, zv_l, zv_k, zOp, zUn, zlk_d, zlk_l, zlk_k, zlk_b, zls_d, zls_l, zls_k, zfz_d, zfz_l, zfz_k, zfz_b, zfr_l, zfr_k, zfr_d, ztB, zbk, ztT, ztr_b, ztr_i, ztr_n, ztr_t, ztr_l, ztr_s, ztAnd, ztOr, ztNot, zeAnd, zeOr, zeNot, zeIf, zaNil, zaCons, zTup, zLst, zCB, zCall, zCallK, zfdn, zDicK, zpNone, zpSome, zpsk, zSl, zChain, zchk, zSeq, zsNil, zBreak, zCont, zIf, zSet, zs_d, zs_l, zs_k, zs_b, zRet, zr_d, zr_l, zr_k, zr_b, zRetN, zDrop, zFor, ziE, zit_t, zit_l, zit_s, zR1, zr1, zR2, zr2, zgN, zAsg, zgT, zgsC, zgsN, zApp, zap0, zap, zLc, zclr, zclr2, zbck, zkeep_d, zkeep_n, zDP, zdp0, zdp, zky_i, zky_s, xSorted, xNe_bb, zPop, zpopk, zExt, zextk, zextk2, xUpper, xInW, xIxW, xLt_ss, xLe_ss, xGt_ss, xSl_t, xSl_l, xSl_s, zlNil, zlCons, zpin_d, zpin_l, zpin_k, zpin_b, zlkL0, zlkL1, zCallL, zimm_d, zimm_l, zimm_k, zimm_i, zimm_s, zimm_b, zimm_n, zimm_t, zimm_0, zimm_1, zSortSet, List.length_cons, List.length_nil, List.nil_append, List.append_nil, List.cons_append, true_and, and_true, reduceIte, if_true, if_false, decide_eq_true_eq, Bool.not_true, Bool.not_false, Bool.not_eq_true, Bool.false_eq_true, Nat.reduceAdd, Nat.zero_add, Bool.not_eq_false, decide_false, decide_true, Bool.not_eq_eq_eq_not, Bool.true_eq, decide_not, Bool.not_not, decide_eq_false_iff_not, eq_self, xIn_strsL, List.length_map, any_iff]
      exact fin hz
    · rw [if_neg hi]
      refine pname_ok fun z hz => ?_
      simp only [xEq_ii, xEq_ss, xEq_nn, xEq_bb, xEq_ni, xEq_in, xNe_ii, xNe_ss, xLt_ii, xGt_ii, xLe_ii, xGe_ii, xAdd_ii, xAdd_ss, xAdd_tt, xAdd_ll, xSub_ii, xMul_ii, xDiv_ii, xMod_ii, xPow_ii, xNeg_i, xInt_i, xInt_b, xLen_t, xLen_l, xLen_s, xLen_d, xTuple_l, xTuple_t, xList_l, xList_t, xIx_t, xIx_l, xIx_s, xIx_di, xIx_ds, at0, at1, at2, at3, at4, at5, at6, at7, xIs_nn, xIs_i, xIs_s, xIs_b, xIs_t, xIs_l, xIs_d, xIsB_n, xIsB_i, xIsB_s, xIsB_b, yInt_i, yInt_b, yInt_n, yInt_s, yInt_t, yInt_l, yBool_i, yBool_b, yBool_n, yBool_s, yBool_t, yBool_l, yStr_i, yStr_b, yStr_n, yStr_s, yStr_t, yStr_l, yTup_i, yTup_b, yTup_n, yTup_s, yTup_t, yTup_l, yLst_i, yLst_n, yLst_s, yLst_t, yLst_l, xIn_it, xIn_il, xIn_sd, xLt_pp, xGt_pp, xLe_pp, xGe_pp, xII, z0, z1, z2, zput0, zput1, zC, zV, zv_d, zv_l, zv_k, zOp, zUn, zlk_d, zlk_l, zlk_k, zlk_b, zls_d, zls_l, zls_k, zfz_d, zfz_l, zfz_k, zfz_b, zfr_l, zfr_k, zfr_d, ztB, zbk, ztT, ztr_b, ztr_i, ztr_n, ztr_t, ztr_l, ztr_s, ztAnd, ztOr, ztNot, zeAnd, zeOr, zeNot, zeIf, zaNil, zaCons, zTup, zLst, zCB, zCall, zCallK, zfdn, zDicK, zpNone, zpSome, zpsk, zSl, zChain, zchk, zSeq, zsNil, zBreak, zCont, zIf, zSet, zs_d, zs_l, zs_k, zs_b, zRet, zr_d, zr_l, zr_k, zr_b, zRetN, zDrop, zFor, ziE, zit_t, zit_l, zit_s, zR1, zr1, zR2, zr2, zgN, zAsg, zgT, zgsC, zgsN, zApp, zap0, zap, zLc, zclr, zclr2, zbck, zkeep_d, zkeep_n, zDP, zdp0, zdp, zky_i, zky_s, xSorted, xNe_bb, zPop, zpopk, zExt, zextk, zextk2, xUpper, xInW, xIxW, xLt_ss, xLe_ss, xGt_ss, xSl_t, xSl_l, xSl_s, zlNil, zlCons, zpin_d, zpin_l, zpin_k, zpin_b, zlkL0, zlkL1, zCallL, zimm_d, zimm_l, zimm_k, zimm_i, zimm_s, zimm_b, zimm_n, zimm_t, zimm_0, zimm_1, zSortSet, List.length_cons, List.length_nil, List.nil_append, List.append_nil, List.cons_append, true_and, and_true, reduceIte, if_true, if_false, decide_eq_true_eq, Bool.not_true, Bool.not_false, Bool.not_eq_true, Bool.false_eq_true, Nat.reduceAdd, Nat.zero_add, Bool.not_eq_false, decide_false, decide_true, Bool.not_eq_eq_eq_not, Bool.true_eq, decide_not, Bool.not_not, decide_eq_false_iff_not, eq_self, xIn_strsL, List.length_map, any_iff]
      exact fin (hz.mono (by omega))
end
end K04
namespace K04
open PySem PySem.Spec PyProof.Rows L2 DL
structure Ls (xs : List Str) : Prop where
  ne : xs ≠ []
  nm : ∀ x ∈ xs, Nm x
  nd : xs.Nodup
  few : xs.length ≤ 20
theorem Ls.pos {xs : List Str} (h : Ls xs) : 0 < xs.length := by
  cases xs with
  | nil => exact absurd rfl h.ne
  | cons a l => simp
theorem Ls.row {xs : List Str} (h : Ls xs) : Row (sortS xs) := by
  refine ⟨fun e => ?_, fun x hx => h.nm x (sortS_mem.mp hx), sortS_asc h.nd, by rw [sortS_len]; have := h.few; omega⟩
  have := sortS_len (xs := xs)
  rw [e] at this
  have := h.pos
  simp at *
  omega
/-- a run of a row, round its end -/
def cyc (xs : List Str) (s m : Nat) : List Str := ((xs ++ xs).drop s).take m
theorem cyc_ls {xs : List Str} {s m : Nat} (h : Ls xs) (hs : s < xs.length) (h1 : 1 ≤ m) (hm : m ≤ xs.length) : Ls (cyc xs s m) := by
  have e : cyc xs s m = (xs.drop s ++ xs.take s).take m := by
    unfold cyc
    rw [List.drop_append_of_le_length (by omega), List.take_append, List.take_append, List.length_drop, List.take_take, Nat.min_eq_left (by omega)]
  have n : (xs.drop s ++ xs.take s).Nodup := List.perm_append_comm.nodup_iff.mp (by rw [List.take_append_drop]; exact h.nd)
  have l : (cyc xs s m).length = m := by
    rw [e, List.length_take, List.length_append, List.length_drop, List.length_take]
    omega
  refine ⟨fun z => by rw [z] at l; simp at l; omega, fun x hx => ?_, ?_, by rw [l]; have := h.few; omega⟩
  · unfold cyc at hx
    have := List.mem_of_mem_drop (List.mem_of_mem_take hx)
    rcases List.mem_append.mp this with q | q <;> exact h.nm x q
  · rw [e]
    exact n.sublist (List.take_sublist _ _)
theorem cyc_snoc {xs : List Str} {s k : Nat} (h : s + k < xs.length + xs.length) : ∃ x, atD ((xs ++ xs).map D.str) ((s : Int) + (k : Int)) = some (.str x) ∧ cyc xs s (k + 1) = cyc xs s k ++ [x] := by
  have l : s + k < (xs ++ xs).length := by rw [List.length_append]; exact h
  refine ⟨(xs ++ xs)[s + k], ?_, ?_⟩
  · rw [show (s : Int) + (k : Int) = ((s + k : Nat) : Int) from by omega]
    exact at_strs (List.getElem?_eq_getElem l)
  · unfold cyc
    rw [List.take_add_one, List.getElem?_drop, List.getElem?_eq_getElem l]
    rfl
theorem rng_nat (n : Nat) : rng 0 n = (List.range' 0 n).map fun j : Nat => D.int (j : Int) := by
  unfold rng
  refine List.ext_getElem (by simp) fun i h1 h2 => ?_
  simp [List.getElem_range']
section
variable {μ : Mu} {w : DL.D} {Δ : DE}
theorem values_lc {R : Sl → S → Prop} {s0 : S} {xs : List Str} {s m : Nat} (e0 : get s0.ρ 4 = .no) (hx : xs.length ≤ 20) : ∀ (n k : Nat), s + (k + n) ≤ xs.length + xs.length → k + n = m → R (.l ((cyc xs s m).map D.str)) ⟨[.d .dlr, .d (.lst (xs.map D.str)), .d (.int (m : Nat)), .d (.int (s : Nat)), .no], μ⟩ →
    lcL [4] s0 (gN 4) (fun s R => R true s) E_p_law_values_0 R ((List.range' k n).map fun j : Nat => D.int (j : Int)) ((cyc xs s k).map D.str) ⟨[.d .dlr, .d (.lst (xs.map D.str)), .d (.int (m : Nat)), .d (.int (s : Nat)), .no], μ⟩
  | 0, k, hk, e, h => by
    rw [Nat.add_zero] at e
    subst e
    simp only [List.range'_zero, List.map_nil, lcL_nil, bck, e0, xEq_ii, xEq_ss, xEq_nn, xEq_bb, xEq_ni, xEq_in, xNe_ii, xNe_ss, xLt_ii, xGt_ii, xLe_ii, xGe_ii, xAdd_ii, xAdd_ss, xAdd_tt, xAdd_ll, xSub_ii, xMul_ii, xDiv_ii, xMod_ii, xPow_ii, xNeg_i, xInt_i, xInt_b, xLen_t, xLen_l, xLen_s, xLen_d, xTuple_l, xTuple_t, xList_l, xList_t, xIx_t, xIx_l, xIx_s, xIx_di, xIx_ds, at0, at1, at2, at3, at4, at5, at6, at7, xIs_nn, xIs_i, xIs_s, xIs_b, xIs_t, xIs_l, xIs_d, xIsB_n, xIsB_i, xIsB_s, xIsB_b, yInt_i, yInt_b, yInt_n, yInt_s, yInt_t, yInt_l, yBool_i, yBool_b, yBool_n, yBool_s, yBool_t, yBool_l, yStr_i, yStr_b, yStr_n, yStr_s, yStr_t, yStr_l, yTup_i, yTup_b, yTup_n, yTup_s, yTup_t, yTup_l, yLst_i, yLst_n, yLst_s, yLst_t, yLst_l, xIn_it, xIn_il, xIn_sd, xLt_pp, xGt_pp, xLe_pp, xGe_pp, xII, z0, z1, z2, zput0, zput1, zC, zV, zv_d, zv_l, zv_k, zOp, zUn, zlk_d, zlk_l, zlk_k, zlk_b, zls_d, zls_l, zls_k, zfz_d, zfz_l, zfz_k, zfz_b, zfr_l, zfr_k, zfr_d, ztB, zbk, ztT, ztr_b, ztr_i, ztr_n, ztr_t, ztr_l, ztr_s, ztAnd, ztOr, ztNot, zeAnd, zeOr, zeNot, zeIf, zaNil, zaCons, zTup, zLst, zCB, zCall, zCallK, zfdn, zDicK, zpNone, zpSome, zpsk, zSl, zChain, zchk, zSeq, zsNil, zBreak, zCont, zIf, zSet, zs_d, zs_l, zs_k, zs_b, zRet, zr_d, zr_l, zr_k, zr_b, zRetN, zDrop, zFor, ziE, zit_t, zit_l, zit_s, zR1, zr1, zR2, zr2, zgN, zAsg, zgT, zgsC, zgsN, zApp, zap0, zap, zLc, zclr, zclr2, zbck, zkeep_d, zkeep_n, zDP, zdp0, zdp, zky_i, zky_s, xSorted, xNe_bb, zPop, zpopk, zExt, zextk, zextk2, xUpper, xInW, xIxW, xLt_ss, xLe_ss, xGt_ss, xSl_t, xSl_l, xSl_s, zlNil, zlCons, zpin_d, zpin_l, zpin_k, zpin_b, zlkL0, zlkL1, zCallL, zimm_d, zimm_l, zimm_k, zimm_i, zimm_s, zimm_b, zimm_n, zimm_t, zimm_0, zimm_1, zSortSet, xInS_t, xInS_l, List.length_cons, List.length_nil, List.nil_append, List.append_nil, List.cons_append, true_and, and_true, reduceIte, if_true, if_false, decide_eq_true_eq, Bool.not_true, Bool.not_false, Bool.not_eq_true, Bool.false_eq_true, Nat.reduceAdd, Nat.zero_add, Bool.not_eq_false, decide_false, decide_true, Bool.not_eq_eq_eq_not, Bool.true_eq, decide_not, Bool.not_not, decide_eq_false_iff_not, eq_self]
    exact h
  | n + 1, k, hk, e, h => by
    have big : 1000 < sizeLine := by decide
    have l1 : (cyc xs s k).length ≤ 40 := by
      unfold cyc
      rw [List.length_take, List.length_drop, List.length_append]
      omega
    obtain ⟨x, a1, a2⟩ := cyc_snoc (xs := xs) (s := s) (k := k) (by omega)
    have ih := values_lc (R := R) (s0 := s0) (xs := xs) (s := s) (m := m) e0 hx n (k + 1) (by omega) (by omega) h
    rw [a2] at ih
    rw [List.range'_succ, List.map_cons]
    simp only [lcL_cons, E_p_law_values_0_eq, xEq_ii, xEq_ss, xEq_nn, xEq_bb, xEq_ni, xEq_in, xNe_ii, xNe_ss, xLt_ii, xGt_ii, xLe_ii, xGe_ii, xAdd_ii, xAdd_ss, xAdd_tt, xAdd_ll, xSub_ii, xMul_ii, xDiv_ii, xMod_ii, xPow_ii, xNeg_i, xInt_i, xInt_b, xLen_t, xLen_l, xLen_s, xLen_d, xTuple_l, xTuple_t, xList_l, xList_t, xIx_t, xIx_l, xIx_s, xIx_di, xIx_ds, at0, at1, at2, at3, at4, at5, at6, at7, xIs_nn, xIs_i, xIs_s, xIs_b, xIs_t, xIs_l, xIs_d, xIsB_n, xIsB_i, xIsB_s, xIsB_b, yInt_i, yInt_b, yInt_n, yInt_s, yInt_t, yInt_l, yBool_i, yBool_b, yBool_n, yBool_s, yBool_t, yBool_l, yStr_i, yStr_b, yStr_n, yStr_s, yStr_t, yStr_l, yTup_i, yTup_b, yTup_n, yTup_s, yTup_t, yTup_l, yLst_i, yLst_n, yLst_s, yLst_t, yLst_l, xIn_it, xIn_il, xIn_sd, xLt_pp, xGt_pp, xLe_pp, xGe_pp, xII, z0, z1, z2, zput0, zput1, zC, zV, zv_d, zv_l, zv_k, zOp, zUn, zlk_d, zlk_l, zlk_k, zlk_b, zls_d, zls_l, zls_k, zfz_d, zfz_l, zfz_k, zfz_b, zfr_l, zfr_k, zfr_d, ztB, zbk, ztT, ztr_b, ztr_i, ztr_n, ztr_t, ztr_l, ztr_s, ztAnd, ztOr, ztNot, zeAnd, zeOr, zeNot, zeIf, zaNil, zaCons, zTup, zLst, zCB, zCall, zCallK, zfdn, zDicK, zpNone, zpSome, zpsk, zSl, zChain, zchk, zSeq, zsNil, zBreak, zCont, zIf, zSet, zs_d, zs_l, zs_k, zs_b, zRet, zr_d, zr_l, zr_k, zr_b, zRetN, zDrop, zFor, ziE, zit_t, zit_l, zit_s, zR1, zr1, zR2, zr2, zgN, zAsg, zgT, zgsC, zgsN, zApp, zap0, zap, zLc, zclr, zclr2, zbck, zkeep_d, zkeep_n, zDP, zdp0, zdp, zky_i, zky_s, xSorted, xNe_bb, zPop, zpopk, zExt, zextk, zextk2, xUpper, xInW, xIxW, xLt_ss, xLe_ss, xGt_ss, xSl_t, xSl_l, xSl_s, zlNil, zlCons, zpin_d, zpin_l, zpin_k, zpin_b, zlkL0, zlkL1, zCallL, zimm_d, zimm_l, zimm_k, zimm_i, zimm_s, zimm_b, zimm_n, zimm_t, zimm_0, zimm_1, zSortSet, xInS_t, xInS_l, List.length_cons, List.length_nil, List.nil_append, List.append_nil, List.cons_append, true_and, and_true, reduceIte, if_true, if_false, decide_eq_true_eq, Bool.not_true, Bool.not_false, Bool.not_eq_true, Bool.false_eq_true, Nat.reduceAdd, Nat.zero_add, Bool.not_eq_false, decide_false, decide_true, Bool.not_eq_eq_eq_not, Bool.true_eq, decide_not, Bool.not_not, decide_eq_false_iff_not, eq_self, List.length_map, ← List.map_append, a1]
    refine ⟨by omega, by omega, ?_⟩
    rw [List.map_append] at ih
    exact ih
end
section
variable {μ : Mu} {R : Sl → Mu → Prop} {w : DL.D} {Δ : DE}
theorem values_ok {xs : List Str} (o : Ls xs) (h : ∀ vs, Row vs → R (.d (.tup (vs.map D.str))) μ) : fn_p_law_values [.dlr, .lst (xs.map D.str)] μ R := by
  have p := o.pos
  have f := o.few
  show Φ_p_law_values _ ⟨[.d .dlr, .d (.lst (xs.map D.str)), .no, .no, .no], μ⟩
  simp only [Φ_p_law_values, xEq_ii, xEq_ss, xEq_nn, xEq_bb, xEq_ni, xEq_in, xNe_ii, xNe_ss, xLt_ii, xGt_ii, xLe_ii, xGe_ii, xAdd_ii, xAdd_ss, xAdd_tt, xAdd_ll, xSub_ii, xMul_ii, xDiv_ii, xMod_ii, xPow_ii, xNeg_i, xInt_i, xInt_b, xLen_t, xLen_l, xLen_s, xLen_d, xTuple_l, xTuple_t, xList_l, xList_t, xIx_t, xIx_l, xIx_s, xIx_di, xIx_ds, at0, at1, at2, at3, at4, at5, at6, at7, xIs_nn, xIs_i, xIs_s, xIs_b, xIs_t, xIs_l, xIs_d, xIsB_n, xIsB_i, xIsB_s, xIsB_b, yInt_i, yInt_b, yInt_n, yInt_s, yInt_t, yInt_l, yBool_i, yBool_b, yBool_n, yBool_s, yBool_t, yBool_l, yStr_i, yStr_b, yStr_n, yStr_s, yStr_t, yStr_l, yTup_i, yTup_b, yTup_n, yTup_s, yTup_t, yTup_l, yLst_i, yLst_n, yLst_s, yLst_t, yLst_l, xIn_it, xIn_il, xIn_sd, xLt_pp, xGt_pp, xLe_pp, xGe_pp, xII, z0, z1, z2, zput0, zput1, zC, zV, zv_d, zv_l, zv_k, zOp, zUn, zlk_d, zlk_l, zlk_k, zlk_b, zls_d, zls_l, zls_k, zfz_d, zfz_l, zfz_k, zfz_b, zfr_l, zfr_k, zfr_d, ztB, zbk, ztT, ztr_b, ztr_i, ztr_n, ztr_t, ztr_l, ztr_s, ztAnd, ztOr, ztNot, zeAnd, zeOr, zeNot, zeIf, zaNil, zaCons, zTup, zLst, zCB, zCall, zCallK, zfdn, zDicK, zpNone, zpSome, zpsk, zSl, zChain, zchk, zSeq, zsNil, zBreak, zCont, zIf, zSet, zs_d, zs_l, zs_k, zs_b, zRet, zr_d, zr_l, zr_k, zr_b, zRetN, zDrop, zFor, ziE, zit_t, zit_l, zit_s, zR1, zr1, zR2, zr2, zgN, zAsg, zgT, zgsC, zgsN, zApp, zap0, zap, zLc, zclr, zclr2, zbck, zkeep_d, zkeep_n, zDP, zdp0, zdp, zky_i, zky_s, xSorted, xNe_bb, zPop, zpopk, zExt, zextk, zextk2, xUpper, xInW, xIxW, xLt_ss, xLe_ss, xGt_ss, xSl_t, xSl_l, xSl_s, zlNil, zlCons, zpin_d, zpin_l, zpin_k, zpin_b, zlkL0, zlkL1, zCallL, zimm_d, zimm_l, zimm_k, zimm_i, zimm_s, zimm_b, zimm_n, zimm_t, zimm_0, zimm_1, zSortSet, xInS_t, xInS_l, List.length_cons, List.length_nil, List.nil_append, List.append_nil, List.cons_append, true_and, and_true, reduceIte, if_true, if_false, decide_eq_true_eq, Bool.not_true, Bool.not_false, Bool.not_eq_true, Bool.false_eq_true, Nat.reduceAdd, Nat.zero_add, Bool.not_eq_false, decide_false, decide_true, Bool.not_eq_eq_eq_not, Bool.true_eq, decide_not, Bool.not_not, decide_eq_false_iff_not, eq_self, List.length_map]
  refine deal_ok (by omega) (by omega) fun m m0 m1 => ?_
  simp only [xEq_ii, xEq_ss, xEq_nn, xEq_bb, xEq_ni, xEq_in, xNe_ii, xNe_ss, xLt_ii, xGt_ii, xLe_ii, xGe_ii, xAdd_ii, xAdd_ss, xAdd_tt, xAdd_ll, xSub_ii, xMul_ii, xDiv_ii, xMod_ii, xPow_ii, xNeg_i, xInt_i, xInt_b, xLen_t, xLen_l, xLen_s, xLen_d, xTuple_l, xTuple_t, xList_l, xList_t, xIx_t, xIx_l, xIx_s, xIx_di, xIx_ds, at0, at1, at2, at3, at4, at5, at6, at7, xIs_nn, xIs_i, xIs_s, xIs_b, xIs_t, xIs_l, xIs_d, xIsB_n, xIsB_i, xIsB_s, xIsB_b, yInt_i, yInt_b, yInt_n, yInt_s, yInt_t, yInt_l, yBool_i, yBool_b, yBool_n, yBool_s, yBool_t, yBool_l, yStr_i, yStr_b, yStr_n, yStr_s, yStr_t, yStr_l, yTup_i, yTup_b, yTup_n, yTup_s, yTup_t, yTup_l, yLst_i, yLst_n, yLst_s, yLst_t, yLst_l, xIn_it, xIn_il, xIn_sd, xLt_pp, xGt_pp, xLe_pp, xGe_pp, xII, z0, z1, z2, zput0, zput1, zC, zV, zv_d, zv_l, zv_k, zOp, zUn, zlk_d, zlk_l, zlk_k, zlk_b, zls_d, zls_l, zls_k, zfz_d, zfz_l, zfz_k, zfz_b, zfr_l, zfr_k, zfr_d, ztB, zbk, ztT, ztr_b, ztr_i, ztr_n, ztr_t, ztr_l, ztr_s, ztAnd, ztOr, ztNot, zeAnd, zeOr, zeNot, zeIf, zaNil, zaCons, zTup, zLst, zCB, zCall, zCallK, zfdn, zDicK, zpNone, zpSome, zpsk, zSl, zChain, zchk, zSeq, zsNil, zBreak, zCont, zIf, zSet, zs_d, zs_l, zs_k, zs_b, zRet, zr_d, zr_l, zr_k, zr_b, zRetN, zDrop, zFor, ziE, zit_t, zit_l, zit_s, zR1, zr1, zR2, zr2, zgN, zAsg, zgT, zgsC, zgsN, zApp, zap0, zap, zLc, zclr, zclr2, zbck, zkeep_d, zkeep_n, zDP, zdp0, zdp, zky_i, zky_s, xSorted, xNe_bb, zPop, zpopk, zExt, zextk, zextk2, xUpper, xInW, xIxW, xLt_ss, xLe_ss, xGt_ss, xSl_t, xSl_l, xSl_s, zlNil, zlCons, zpin_d, zpin_l, zpin_k, zpin_b, zlkL0, zlkL1, zCallL, zimm_d, zimm_l, zimm_k, zimm_i, zimm_s, zimm_b, zimm_n, zimm_t, zimm_0, zimm_1, zSortSet, xInS_t, xInS_l, List.length_cons, List.length_nil, List.nil_append, List.append_nil, List.cons_append, true_and, and_true, reduceIte, if_true, if_false, decide_eq_true_eq, Bool.not_true, Bool.not_false, Bool.not_eq_true, Bool.false_eq_true, Nat.reduceAdd, Nat.zero_add, Bool.not_eq_false, decide_false, decide_true, Bool.not_eq_eq_eq_not, Bool.true_eq, decide_not, Bool.not_not, decide_eq_false_iff_not, eq_self, List.length_map]
  refine deal_ok (by omega) (by omega) fun s s0 s1 => ?_
  obtain ⟨m, rfl⟩ := Int.eq_ofNat_of_zero_le m0
  obtain ⟨s, rfl⟩ := Int.eq_ofNat_of_zero_le s0
  simp only [xEq_ii, xEq_ss, xEq_nn, xEq_bb, xEq_ni, xEq_in, xNe_ii, xNe_ss, xLt_ii, xGt_ii, xLe_ii, xGe_ii, xAdd_ii, xAdd_ss, xAdd_tt, xAdd_ll, xSub_ii, xMul_ii, xDiv_ii, xMod_ii, xPow_ii, xNeg_i, xInt_i, xInt_b, xLen_t, xLen_l, xLen_s, xLen_d, xTuple_l, xTuple_t, xList_l, xList_t, xIx_t, xIx_l, xIx_s, xIx_di, xIx_ds, at0, at1, at2, at3, at4, at5, at6, at7, xIs_nn, xIs_i, xIs_s, xIs_b, xIs_t, xIs_l, xIs_d, xIsB_n, xIsB_i, xIsB_s, xIsB_b, yInt_i, yInt_b, yInt_n, yInt_s, yInt_t, yInt_l, yBool_i, yBool_b, yBool_n, yBool_s, yBool_t, yBool_l, yStr_i, yStr_b, yStr_n, yStr_s, yStr_t, yStr_l, yTup_i, yTup_b, yTup_n, yTup_s, yTup_t, yTup_l, yLst_i, yLst_n, yLst_s, yLst_t, yLst_l, xIn_it, xIn_il, xIn_sd, xLt_pp, xGt_pp, xLe_pp, xGe_pp, xII, z0, z1, z2, zput0, zput1, zC, zV, zv_d, zv_l, zv_k, zOp, zUn, zlk_d, zlk_l, zlk_k, zlk_b, zls_d, zls_l, zls_k, zfz_d, zfz_l, zfz_k, zfz_b, zfr_l, zfr_k, zfr_d, ztB, zbk, ztT, ztr_b, ztr_i, ztr_n, ztr_t, ztr_l, ztr_s, ztAnd, ztOr, ztNot, zeAnd, zeOr, zeNot, zeIf, zaNil, zaCons, zTup, zLst, zCB, zCall, zCallK, zfdn, zDicK, zpNone, zpSome, zpsk, zSl, zChain, zchk, zSeq, zsNil, zBreak, zCont, zIf, zSet, zs_d, zs_l, zs_k, zs_b, zRet, zr_d, zr_l, zr_k, zr_b, zRetN, zDrop, zFor, ziE, zit_t, zit_l, zit_s, zR1, zr1, zR2, zr2, zgN, zAsg, zgT, zgsC, zgsN, zApp, zap0, zap, zLc, zclr, zclr2, zbck, zkeep_d, zkeep_n, zDP, zdp0, zdp, zky_i, zky_s, xSorted, xNe_bb, zPop, zpopk, zExt, zextk, zextk2, xUpper, xInW, xIxW, xLt_ss, xLe_ss, xGt_ss, xSl_t, xSl_l, xSl_s, zlNil, zlCons, zpin_d, zpin_l, zpin_k, zpin_b, zlkL0, zlkL1, zCallL, zimm_d, zimm_l, zimm_k, zimm_i, zimm_s, zimm_b, zimm_n, zimm_t, zimm_0, zimm_1, zSortSet, xInS_t, xInS_l, List.length_cons, List.length_nil, List.nil_append, List.append_nil, List.cons_append, true_and, and_true, reduceIte, if_true, if_false, decide_eq_true_eq, Bool.not_true, Bool.not_false, Bool.not_eq_true, Bool.false_eq_true, Nat.reduceAdd, Nat.zero_add, Bool.not_eq_false, decide_false, decide_true, Bool.not_eq_eq_eq_not, Bool.true_eq, decide_not, Bool.not_not, decide_eq_false_iff_not, eq_self]
  rw [show (1 : Int) + (m : Int) = ((m + 1 : Nat) : Int) from by omega]
  refine ⟨⟨by omega, by omega⟩, ?_⟩
  rw [Int.toNat_natCast, rng_nat]
  refine values_lc (m := m + 1) (s := s) ?hh o.few (m + 1) 0 (by omega) (by omega) ?_
  case hh => rfl
  simp only [xEq_ii, xEq_ss, xEq_nn, xEq_bb, xEq_ni, xEq_in, xNe_ii, xNe_ss, xLt_ii, xGt_ii, xLe_ii, xGe_ii, xAdd_ii, xAdd_ss, xAdd_tt, xAdd_ll, xSub_ii, xMul_ii, xDiv_ii, xMod_ii, xPow_ii, xNeg_i, xInt_i, xInt_b, xLen_t, xLen_l, xLen_s, xLen_d, xTuple_l, xTuple_t, xList_l, xList_t, xIx_t, xIx_l, xIx_s, xIx_di, xIx_ds, at0, at1, at2, at3, at4, at5, at6, at7, xIs_nn, xIs_i, xIs_s, xIs_b, xIs_t, xIs_l, xIs_d, xIsB_n, xIsB_i, xIsB_s, xIsB_b, yInt_i, yInt_b, yInt_n, yInt_s, yInt_t, yInt_l, yBool_i, yBool_b, yBool_n, yBool_s, yBool_t, yBool_l, yStr_i, yStr_b, yStr_n, yStr_s, yStr_t, yStr_l, yTup_i, yTup_b, yTup_n, yTup_s, yTup_t, yTup_l, yLst_i, yLst_n, yLst_s, yLst_t, yLst_l, xIn_it, xIn_il, xIn_sd, xLt_pp, xGt_pp, xLe_pp, xGe_pp, xII, z0, z1, z2, zput0, zput1, zC, zV, zv_d, zv_l, zv_k, zOp, zUn, zlk_d, zlk_l, zlk_k, zlk_b, zls_d, zls_l, zls_k, zfz_d, zfz_l, zfz_k, zfz_b, zfr_l, zfr_k, zfr_d, ztB, zbk, ztT, ztr_b, ztr_i, ztr_n, ztr_t, ztr_l, ztr_s, ztAnd, ztOr, ztNot, zeAnd, zeOr, zeNot, zeIf, zaNil, zaCons, zTup, zLst, zCB, zCall, zCallK, zfdn, zDicK, zpNone, zpSome, zpsk, zSl, zChain, zchk, zSeq, zsNil, zBreak, zCont, zIf, zSet, zs_d, zs_l, zs_k, zs_b, zRet, zr_d, zr_l, zr_k, zr_b, zRetN, zDrop, zFor, ziE, zit_t, zit_l, zit_s, zR1, zr1, zR2, zr2, zgN, zAsg, zgT, zgsC, zgsN, zApp, zap0, zap, zLc, zclr, zclr2, zbck, zkeep_d, zkeep_n, zDP, zdp0, zdp, zky_i, zky_s, xSorted, xNe_bb, zPop, zpopk, zExt, zextk, zextk2, xUpper, xInW, xIxW, xLt_ss, xLe_ss, xGt_ss, xSl_t, xSl_l, xSl_s, zlNil, zlCons, zpin_d, zpin_l, zpin_k, zpin_b, zlkL0, zlkL1, zCallL, zimm_d, zimm_l, zimm_k, zimm_i, zimm_s, zimm_b, zimm_n, zimm_t, zimm_0, zimm_1, zSortSet, xInS_t, xInS_l, List.length_cons, List.length_nil, List.nil_append, List.append_nil, List.cons_append, true_and, and_true, reduceIte, if_true, if_false, decide_eq_true_eq, Bool.not_true, Bool.not_false, Bool.not_eq_true, Bool.false_eq_true, Nat.reduceAdd, Nat.zero_add, Bool.not_eq_false, decide_false, decide_true, Bool.not_eq_eq_eq_not, Bool.true_eq, decide_not, Bool.not_not, decide_eq_false_iff_not, eq_self]
  refine ⟨csort_str _, ?_⟩
  rw [sort_str]
  exact h _ (cyc_ls o (by omega) (by omega) (by omega)).row
theorem leaf_ok {ls vs : List Str} (o : Ls ls) (ov : Ls vs) (h : ∀ q : Q, q.Ok → q.n = 1 → R (.d q.D) μ) : fn_p_law_leaf [.dlr, .lst (ls.map D.str), .lst (vs.map D.str)] μ R := by
  have p := o.pos
  have f := o.few
  show Φ_p_law_leaf _ ⟨[.d .dlr, .d (.lst (ls.map D.str)), .d (.lst (vs.map D.str)), .no], μ⟩
  simp only [Φ_p_law_leaf, xEq_ii, xEq_ss, xEq_nn, xEq_bb, xEq_ni, xEq_in, xNe_ii, xNe_ss, xLt_ii, xGt_ii, xLe_ii, xGe_ii, xAdd_ii, xAdd_ss, xAdd_tt, xAdd_ll, xSub_ii, xMul_ii, xDiv_ii, xMod_ii, xPow_ii, xNeg_i, xInt_i, xInt_b, xLen_t, xLen_l, xLen_s, xLen_d, xTuple_l, xTuple_t, xList_l, xList_t, xIx_t, xIx_l, xIx_s, xIx_di, xIx_ds, at0, at1, at2, at3, at4, at5, at6, at7, xIs_nn, xIs_i, xIs_s, xIs_b, xIs_t, xIs_l, xIs_d, xIsB_n, xIsB_i, xIsB_s, xIsB_b, yInt_i, yInt_b, yInt_n, yInt_s, yInt_t, yInt_l, yBool_i, yBool_b, yBool_n, yBool_s, yBool_t, yBool_l, yStr_i, yStr_b, yStr_n, yStr_s, yStr_t, yStr_l, yTup_i, yTup_b, yTup_n, yTup_s, yTup_t, yTup_l, yLst_i, yLst_n, yLst_s, yLst_t, yLst_l, xIn_it, xIn_il, xIn_sd, xLt_pp, xGt_pp, xLe_pp, xGe_pp, xII, z0, z1, z2, zput0, zput1, zC, zV, zv_d, zv_l, zv_k, zOp, zUn, zlk_d, zlk_l, zlk_k, zlk_b, zls_d, zls_l, zls_k, zfz_d, zfz_l, zfz_k, zfz_b, zfr_l, zfr_k, zfr_d, ztB, zbk, ztT, ztr_b, ztr_i, ztr_n, ztr_t, ztr_l, ztr_s, ztAnd, ztOr, ztNot, zeAnd, zeOr, zeNot, zeIf, zaNil, zaCons, zTup, zLst, zCB, zCall, zCallK, zfdn, zDicK, zpNone, zpSome, zpsk, zSl, zChain, zchk, zSeq, zsNil, zBreak, zCont, zIf, zSet, zs_d, zs_l, zs_k, zs_b, zRet, zr_d, zr_l, zr_k, zr_b, zRetN, zDrop, zFor, ziE, zit_t, zit_l, zit_s, zR1, zr1, zR2, zr2, zgN, zAsg, zgT, zgsC, zgsN, zApp, zap0, zap, zLc, zclr, zclr2, zbck, zkeep_d, zkeep_n, zDP, zdp0, zdp, zky_i, zky_s, xSorted, xNe_bb, zPop, zpopk, zExt, zextk, zextk2, xUpper, xInW, xIxW, xLt_ss, xLe_ss, xGt_ss, xSl_t, xSl_l, xSl_s, zlNil, zlCons, zpin_d, zpin_l, zpin_k, zpin_b, zlkL0, zlkL1, zCallL, zimm_d, zimm_l, zimm_k, zimm_i, zimm_s, zimm_b, zimm_n, zimm_t, zimm_0, zimm_1, zSortSet, xInS_t, xInS_l, List.length_cons, List.length_nil, List.nil_append, List.append_nil, List.cons_append, true_and, and_true, reduceIte, if_true, if_false, decide_eq_true_eq, Bool.not_true, Bool.not_false, Bool.not_eq_true, Bool.false_eq_true, Nat.reduceAdd, Nat.zero_add, Bool.not_eq_false, decide_false, decide_true, Bool.not_eq_eq_eq_not, Bool.true_eq, decide_not, Bool.not_not, decide_eq_false_iff_not, eq_self]
  refine deal_ok (by decide) (by decide) fun c c0 c1 => ?_
  simp only [xEq_ii, xEq_ss, xEq_nn, xEq_bb, xEq_ni, xEq_in, xNe_ii, xNe_ss, xLt_ii, xGt_ii, xLe_ii, xGe_ii, xAdd_ii, xAdd_ss, xAdd_tt, xAdd_ll, xSub_ii, xMul_ii, xDiv_ii, xMod_ii, xPow_ii, xNeg_i, xInt_i, xInt_b, xLen_t, xLen_l, xLen_s, xLen_d, xTuple_l, xTuple_t, xList_l, xList_t, xIx_t, xIx_l, xIx_s, xIx_di, xIx_ds, at0, at1, at2, at3, at4, at5, at6, at7, xIs_nn, xIs_i, xIs_s, xIs_b, xIs_t, xIs_l, xIs_d, xIsB_n, xIsB_i, xIsB_s, xIsB_b, yInt_i, yInt_b, yInt_n, yInt_s, yInt_t, yInt_l, yBool_i, yBool_b, yBool_n, yBool_s, yBool_t, yBool_l, yStr_i, yStr_b, yStr_n, yStr_s, yStr_t, yStr_l, yTup_i, yTup_b, yTup_n, yTup_s, yTup_t, yTup_l, yLst_i, yLst_n, yLst_s, yLst_t, yLst_l, xIn_it, xIn_il, xIn_sd, xLt_pp, xGt_pp, xLe_pp, xGe_pp, xII, z0, z1, z2, zput0, zput1, zC, zV, zv_d, zv_l, zv_k, zOp, zUn, zlk_d, zlk_l, zlk_k, zlk_b, zls_d, zls_l, zls_k, zfz_d, zfz_l, zfz_k, zfz_b, zfr_l, zfr_k, zfr_d, ztB, zbk, ztT, ztr_b, ztr_i, ztr_n, ztr_t, ztr_l, ztr_s, ztAnd, ztOr, ztNot, zeAnd, zeOr, zeNot, zeIf, zaNil, zaCons, zTup, zLst, zCB, zCall, zCallK, zfdn, zDicK, zpNone, zpSome, zpsk, zSl, zChain, zchk, zSeq, zsNil, zBreak, zCont, zIf, zSet, zs_d, zs_l, zs_k, zs_b, zRet, zr_d, zr_l, zr_k, zr_b, zRetN, zDrop, zFor, ziE, zit_t, zit_l, zit_s, zR1, zr1, zR2, zr2, zgN, zAsg, zgT, zgsC, zgsN, zApp, zap0, zap, zLc, zclr, zclr2, zbck, zkeep_d, zkeep_n, zDP, zdp0, zdp, zky_i, zky_s, xSorted, xNe_bb, zPop, zpopk, zExt, zextk, zextk2, xUpper, xInW, xIxW, xLt_ss, xLe_ss, xGt_ss, xSl_t, xSl_l, xSl_s, zlNil, zlCons, zpin_d, zpin_l, zpin_k, zpin_b, zlkL0, zlkL1, zCallL, zimm_d, zimm_l, zimm_k, zimm_i, zimm_s, zimm_b, zimm_n, zimm_t, zimm_0, zimm_1, zSortSet, xInS_t, xInS_l, List.length_cons, List.length_nil, List.nil_append, List.append_nil, List.cons_append, true_and, and_true, reduceIte, if_true, if_false, decide_eq_true_eq, Bool.not_true, Bool.not_false, Bool.not_eq_true, Bool.false_eq_true, Nat.reduceAdd, Nat.zero_add, Bool.not_eq_false, decide_false, decide_true, Bool.not_eq_eq_eq_not, Bool.true_eq, decide_not, Bool.not_not, decide_eq_false_iff_not, eq_self]
  by_cases h0 : c = 0
  · rw [if_pos h0]
    exact ⟨by decide, h .any trivial rfl⟩
  · rw [if_neg h0]
    by_cases h1 : c < 3
    · rw [if_pos h1]
      refine one_l (by simpa using p) (by rw [List.length_map]; omega) fun d hd => ?_
      obtain ⟨x, hx, rfl⟩ := List.mem_map.mp hd
      simp only [xEq_ii, xEq_ss, xEq_nn, xEq_bb, xEq_ni, xEq_in, xNe_ii, xNe_ss, xLt_ii, xGt_ii, xLe_ii, xGe_ii, xAdd_ii, xAdd_ss, xAdd_tt, xAdd_ll, xSub_ii, xMul_ii, xDiv_ii, xMod_ii, xPow_ii, xNeg_i, xInt_i, xInt_b, xLen_t, xLen_l, xLen_s, xLen_d, xTuple_l, xTuple_t, xList_l, xList_t, xIx_t, xIx_l, xIx_s, xIx_di, xIx_ds, at0, at1, at2, at3, at4, at5, at6, at7, xIs_nn, xIs_i, xIs_s, xIs_b, xIs_t, xIs_l, xIs_d, xIsB_n, xIsB_i, xIsB_s, xIsB_b, yInt_i, yInt_b, yInt_n, yInt_s, yInt_t, yInt_l, yBool_i, yBool_b, yBool_n, yBool_s, yBool_t, yBool_l, yStr_i, yStr_b, yStr_n, yStr_s, yStr_t, yStr_l, yTup_i, yTup_b, yTup_n, yTup_s, yTup_t, yTup_l, yLst_i, yLst_n, yLst_s, yLst_t, yLst_l, xIn_it, xIn_il, xIn_sd, xLt_pp, xGt_pp, xLe_pp, xGe_pp, xII, z0, z1, z2, zput0, zput1, zC, zV, zv_d, zv_l, zv_k, zOp, zUn, zlk_d, zlk_l, zlk_k, zlk_b, zls_d, zls_l, zls_k, zfz_d, zfz_l, zfz_k, zfz_b, zfr_l, zfr_k, zfr_d, ztB, zbk, ztT, ztr_b, ztr_i, ztr_n, ztr_t, ztr_l, ztr_s, ztAnd, ztOr, ztNot, zeAnd, zeOr, zeNot, zeIf, zaNil, zaCons, zTup, zLst, zCB, zCall, zCallK, zfdn, zDicK, zpNone, zpSome, zpsk, zSl, zChain, zchk, zSeq, zsNil, zBreak, zCont, zIf, zSet, zs_d, zs_l, zs_k, zs_b, zRet, zr_d, zr_l, zr_k, zr_b, zRetN, zDrop, zFor, ziE, zit_t, zit_l, zit_s, zR1, zr1, zR2, zr2, zgN, zAsg, zgT, zgsC, zgsN, zApp, zap0, zap, zLc, zclr, zclr2, zbck, zkeep_d, zkeep_n, zDP, zdp0, zdp, zky_i, zky_s, xSorted, xNe_bb, zPop, zpopk, zExt, zextk, zextk2, xUpper, xInW, xIxW, xLt_ss, xLe_ss, xGt_ss, xSl_t, xSl_l, xSl_s, zlNil, zlCons, zpin_d, zpin_l, zpin_k, zpin_b, zlkL0, zlkL1, zCallL, zimm_d, zimm_l, zimm_k, zimm_i, zimm_s, zimm_b, zimm_n, zimm_t, zimm_0, zimm_1, zSortSet, xInS_t, xInS_l, List.length_cons, List.length_nil, List.nil_append, List.append_nil, List.cons_append, true_and, and_true, reduceIte, if_true, if_false, decide_eq_true_eq, Bool.not_true, Bool.not_false, Bool.not_eq_true, Bool.false_eq_true, Nat.reduceAdd, Nat.zero_add, Bool.not_eq_false, decide_false, decide_true, Bool.not_eq_eq_eq_not, Bool.true_eq, decide_not, Bool.not_not, decide_eq_false_iff_not, eq_self]
      exact ⟨by decide, h (.has x) (o.nm x hx) rfl⟩
    · rw [if_neg h1]
      refine one_l (by simpa using p) (by rw [List.length_map]; omega) fun d hd => ?_
      obtain ⟨x, hx, rfl⟩ := List.mem_map.mp hd
      simp only [xEq_ii, xEq_ss, xEq_nn, xEq_bb, xEq_ni, xEq_in, xNe_ii, xNe_ss, xLt_ii, xGt_ii, xLe_ii, xGe_ii, xAdd_ii, xAdd_ss, xAdd_tt, xAdd_ll, xSub_ii, xMul_ii, xDiv_ii, xMod_ii, xPow_ii, xNeg_i, xInt_i, xInt_b, xLen_t, xLen_l, xLen_s, xLen_d, xTuple_l, xTuple_t, xList_l, xList_t, xIx_t, xIx_l, xIx_s, xIx_di, xIx_ds, at0, at1, at2, at3, at4, at5, at6, at7, xIs_nn, xIs_i, xIs_s, xIs_b, xIs_t, xIs_l, xIs_d, xIsB_n, xIsB_i, xIsB_s, xIsB_b, yInt_i, yInt_b, yInt_n, yInt_s, yInt_t, yInt_l, yBool_i, yBool_b, yBool_n, yBool_s, yBool_t, yBool_l, yStr_i, yStr_b, yStr_n, yStr_s, yStr_t, yStr_l, yTup_i, yTup_b, yTup_n, yTup_s, yTup_t, yTup_l, yLst_i, yLst_n, yLst_s, yLst_t, yLst_l, xIn_it, xIn_il, xIn_sd, xLt_pp, xGt_pp, xLe_pp, xGe_pp, xII, z0, z1, z2, zput0, zput1, zC, zV, zv_d, zv_l, zv_k, zOp, zUn, zlk_d, zlk_l, zlk_k, zlk_b, zls_d, zls_l, zls_k, zfz_d, zfz_l, zfz_k, zfz_b, zfr_l, zfr_k, zfr_d, ztB, zbk, ztT, ztr_b, ztr_i, ztr_n, ztr_t, ztr_l, ztr_s, ztAnd, ztOr, ztNot, zeAnd, zeOr, zeNot, zeIf, zaNil, zaCons, zTup, zLst, zCB, zCall, zCallK, zfdn, zDicK, zpNone, zpSome, zpsk, zSl, zChain, zchk, zSeq, zsNil, zBreak, zCont, zIf, zSet, zs_d, zs_l, zs_k, zs_b, zRet, zr_d, zr_l, zr_k, zr_b, zRetN, zDrop, zFor, ziE, zit_t, zit_l, zit_s, zR1, zr1, zR2, zr2, zgN, zAsg, zgT, zgsC, zgsN, zApp, zap0, zap, zLc, zclr, zclr2, zbck, zkeep_d, zkeep_n, zDP, zdp0, zdp, zky_i, zky_s, xSorted, xNe_bb, zPop, zpopk, zExt, zextk, zextk2, xUpper, xInW, xIxW, xLt_ss, xLe_ss, xGt_ss, xSl_t, xSl_l, xSl_s, zlNil, zlCons, zpin_d, zpin_l, zpin_k, zpin_b, zlkL0, zlkL1, zCallL, zimm_d, zimm_l, zimm_k, zimm_i, zimm_s, zimm_b, zimm_n, zimm_t, zimm_0, zimm_1, zSortSet, xInS_t, xInS_l, List.length_cons, List.length_nil, List.nil_append, List.append_nil, List.cons_append, true_and, and_true, reduceIte, if_true, if_false, decide_eq_true_eq, Bool.not_true, Bool.not_false, Bool.not_eq_true, Bool.false_eq_true, Nat.reduceAdd, Nat.zero_add, Bool.not_eq_false, decide_false, decide_true, Bool.not_eq_eq_eq_not, Bool.true_eq, decide_not, Bool.not_not, decide_eq_false_iff_not, eq_self]
      refine values_ok ov fun us r => ?_
      simp only [xEq_ii, xEq_ss, xEq_nn, xEq_bb, xEq_ni, xEq_in, xNe_ii, xNe_ss, xLt_ii, xGt_ii, xLe_ii, xGe_ii, xAdd_ii, xAdd_ss, xAdd_tt, xAdd_ll, xSub_ii, xMul_ii, xDiv_ii, xMod_ii, xPow_ii, xNeg_i, xInt_i, xInt_b, xLen_t, xLen_l, xLen_s, xLen_d, xTuple_l, xTuple_t, xList_l, xList_t, xIx_t, xIx_l, xIx_s, xIx_di, xIx_ds, at0, at1, at2, at3, at4, at5, at6, at7, xIs_nn, xIs_i, xIs_s, xIs_b, xIs_t, xIs_l, xIs_d, xIsB_n, xIsB_i, xIsB_s, xIsB_b, yInt_i, yInt_b, yInt_n, yInt_s, yInt_t, yInt_l, yBool_i, yBool_b, yBool_n, yBool_s, yBool_t, yBool_l, yStr_i, yStr_b, yStr_n, yStr_s, yStr_t, yStr_l, yTup_i, yTup_b, yTup_n, yTup_s, yTup_t, yTup_l, yLst_i, yLst_n, yLst_s, yLst_t, yLst_l, xIn_it, xIn_il, xIn_sd, xLt_pp, xGt_pp, xLe_pp, xGe_pp, xII, z0, z1, z2, zput0, zput1, zC, zV, zv_d, zv_l, zv_k, zOp, zUn, zlk_d, zlk_l, zlk_k, zlk_b, zls_d, zls_l, zls_k, zfz_d, zfz_l, zfz_k, zfz_b, zfr_l, zfr_k, zfr_d, ztB, zbk, ztT, ztr_b, ztr_i, ztr_n, ztr_t, ztr_l, ztr_s, ztAnd, ztOr, ztNot, zeAnd, zeOr, zeNot, zeIf, zaNil, zaCons, zTup, zLst, zCB, zCall, zCallK, zfdn, zDicK, zpNone, zpSome, zpsk, zSl, zChain, zchk, zSeq, zsNil, zBreak, zCont, zIf, zSet, zs_d, zs_l, zs_k, zs_b, zRet, zr_d, zr_l, zr_k, zr_b, zRetN, zDrop, zFor, ziE, zit_t, zit_l, zit_s, zR1, zr1, zR2, zr2, zgN, zAsg, zgT, zgsC, zgsN, zApp, zap0, zap, zLc, zclr, zclr2, zbck, zkeep_d, zkeep_n, zDP, zdp0, zdp, zky_i, zky_s, xSorted, xNe_bb, zPop, zpopk, zExt, zextk, zextk2, xUpper, xInW, xIxW, xLt_ss, xLe_ss, xGt_ss, xSl_t, xSl_l, xSl_s, zlNil, zlCons, zpin_d, zpin_l, zpin_k, zpin_b, zlkL0, zlkL1, zCallL, zimm_d, zimm_l, zimm_k, zimm_i, zimm_s, zimm_b, zimm_n, zimm_t, zimm_0, zimm_1, zSortSet, xInS_t, xInS_l, List.length_cons, List.length_nil, List.nil_append, List.append_nil, List.cons_append, true_and, and_true, reduceIte, if_true, if_false, decide_eq_true_eq, Bool.not_true, Bool.not_false, Bool.not_eq_true, Bool.false_eq_true, Nat.reduceAdd, Nat.zero_add, Bool.not_eq_false, decide_false, decide_true, Bool.not_eq_eq_eq_not, Bool.true_eq, decide_not, Bool.not_not, decide_eq_false_iff_not, eq_self]
      exact ⟨by decide, h (.is x us) ⟨o.nm x hx, r⟩ rfl⟩
theorem pselector_ok {ls vs : List Str} (o : Ls ls) (ov : Ls vs) : ∀ (f n : Nat), 1 ≤ n → n ≤ f → n ≤ 60 → ∀ {R : Sl → Mu → Prop}, (∀ q : Q, q.Ok → q.n = n → R (.d q.D) μ) → fn_p_law_selector f [.dlr, .int (n : Nat), .lst (ls.map D.str), .lst (vs.map D.str)] μ R
  | 0, n, h1, hf, _, R, h => by omega
  | f + 1, n, h1, hf, h60, R, h => by
    have big : 1000 < sizeLine := by decide
    have sub : ∀ (k : Nat), 1 ≤ k → k < n → ∀ {R : Sl → Mu → Prop}, (∀ q : Q, q.Ok → q.n = k → R (.d q.D) μ) → fn_p_law_selector f [.dlr, .int (k : Nat), .lst (ls.map D.str), .lst (vs.map D.str)] μ R := fun k k1 k2 R hR => pselector_ok o ov f k k1 (by omega) (by omega) hR
    show Φ_p_law_selector (fn_p_law_selector f) _ ⟨[.d .dlr, .d (.int (n : Nat)), .d (.lst (ls.map D.str)), .d (.lst (vs.map D.str)), .no, .no], μ⟩
    simp only [Φ_p_law_selector, xEq_ii, xEq_ss, xEq_nn, xEq_bb, xEq_ni, xEq_in, xNe_ii, xNe_ss, xLt_ii, xGt_ii, xLe_ii, xGe_ii, xAdd_ii, xAdd_ss, xAdd_tt, xAdd_ll, xSub_ii, xMul_ii, xDiv_ii, xMod_ii, xPow_ii, xNeg_i, xInt_i, xInt_b, xLen_t, xLen_l, xLen_s, xLen_d, xTuple_l, xTuple_t, xList_l, xList_t, xIx_t, xIx_l, xIx_s, xIx_di, xIx_ds, at0, at1, at2, at3, at4, at5, at6, at7, xIs_nn, xIs_i, xIs_s, xIs_b, xIs_t, xIs_l, xIs_d, xIsB_n, xIsB_i, xIsB_s, xIsB_b, yInt_i, yInt_b, yInt_n, yInt_s, yInt_t, yInt_l, yBool_i, yBool_b, yBool_n, yBool_s, yBool_t, yBool_l, yStr_i, yStr_b, yStr_n, yStr_s, yStr_t, yStr_l, yTup_i, yTup_b, yTup_n, yTup_s, yTup_t, yTup_l, yLst_i, yLst_n, yLst_s, yLst_t, yLst_l, xIn_it, xIn_il, xIn_sd, xLt_pp, xGt_pp, xLe_pp, xGe_pp, xII, z0, z1, z2, zput0, zput1, zC, zV, zv_d, zv_l, zv_k, zOp, zUn, zlk_d, zlk_l, zlk_k, zlk_b, zls_d, zls_l, zls_k, zfz_d, zfz_l, zfz_k, zfz_b, zfr_l, zfr_k, zfr_d, ztB, zbk, ztT, ztr_b, ztr_i, ztr_n, ztr_t, ztr_l, ztr_s, ztAnd, ztOr, ztNot, zeAnd, zeOr, zeNot, zeIf, zaNil, zaCons, zTup, zLst, zCB, zCall, zCallK, zfdn, zDicK, zpNone, zpSome, zpsk, zSl, zChain, zchk, zSeq, zsNil, zBreak, zCont, zIf, zSet, zs_d, zs_l, zs_k, zs_b, zRet, zr_d, zr_l, zr_k, zr_b, zRetN, zDrop, zFor, ziE, zit_t, zit_l, zit_s, zR1, zr1, zR2, zr2, zgN, zAsg, zgT, zgsC, zgsN, zApp, zap0, zap, zLc, zclr, zclr2, zbck, zkeep_d, zkeep_n, zDP, zdp0, zdp, zky_i, zky_s, xSorted, xNe_bb, zPop, zpopk, zExt, zextk, zextk2, xUpper, xInW, xIxW, xLt_ss, xLe_ss, xGt_ss, xSl_t, xSl_l, xSl_s, zlNil, zlCons, zpin_d, zpin_l, zpin_k, zpin_b, zlkL0, zlkL1, zCallL, zimm_d, zimm_l, zimm_k, zimm_i, zimm_s, zimm_b, zimm_n, zimm_t, zimm_0, zimm_1, zSortSet, xInS_t, xInS_l, List.length_cons, List.length_nil, List.nil_append, List.append_nil, List.cons_append, true_and, and_true, reduceIte, if_true, if_false, decide_eq_true_eq, Bool.not_true, Bool.not_false, Bool.not_eq_true, Bool.false_eq_true, Nat.reduceAdd, Nat.zero_add, Bool.not_eq_false, decide_false, decide_true, Bool.not_eq_eq_eq_not, Bool.true_eq, decide_not, Bool.not_not, decide_eq_false_iff_not, eq_self]
    by_cases c1 : (n : Int) = 1
    · rw [if_pos c1]
      refine leaf_ok o ov fun q oq nq => ?_
      simp only [xEq_ii, xEq_ss, xEq_nn, xEq_bb, xEq_ni, xEq_in, xNe_ii, xNe_ss, xLt_ii, xGt_ii, xLe_ii, xGe_ii, xAdd_ii, xAdd_ss, xAdd_tt, xAdd_ll, xSub_ii, xMul_ii, xDiv_ii, xMod_ii, xPow_ii, xNeg_i, xInt_i, xInt_b, xLen_t, xLen_l, xLen_s, xLen_d, xTuple_l, xTuple_t, xList_l, xList_t, xIx_t, xIx_l, xIx_s, xIx_di, xIx_ds, at0, at1, at2, at3, at4, at5, at6, at7, xIs_nn, xIs_i, xIs_s, xIs_b, xIs_t, xIs_l, xIs_d, xIsB_n, xIsB_i, xIsB_s, xIsB_b, yInt_i, yInt_b, yInt_n, yInt_s, yInt_t, yInt_l, yBool_i, yBool_b, yBool_n, yBool_s, yBool_t, yBool_l, yStr_i, yStr_b, yStr_n, yStr_s, yStr_t, yStr_l, yTup_i, yTup_b, yTup_n, yTup_s, yTup_t, yTup_l, yLst_i, yLst_n, yLst_s, yLst_t, yLst_l, xIn_it, xIn_il, xIn_sd, xLt_pp, xGt_pp, xLe_pp, xGe_pp, xII, z0, z1, z2, zput0, zput1, zC, zV, zv_d, zv_l, zv_k, zOp, zUn, zlk_d, zlk_l, zlk_k, zlk_b, zls_d, zls_l, zls_k, zfz_d, zfz_l, zfz_k, zfz_b, zfr_l, zfr_k, zfr_d, ztB, zbk, ztT, ztr_b, ztr_i, ztr_n, ztr_t, ztr_l, ztr_s, ztAnd, ztOr, ztNot, zeAnd, zeOr, zeNot, zeIf, zaNil, zaCons, zTup, zLst, zCB, zCall, zCallK, zfdn, zDicK, zpNone, zpSome, zpsk, zSl, zChain, zchk, zSeq, zsNil, zBreak, zCont, zIf, zSet, zs_d, zs_l, zs_k, zs_b, zRet, zr_d, zr_l, zr_k, zr_b, zRetN, zDrop, zFor, ziE, zit_t, zit_l, zit_s, zR1, zr1, zR2, zr2, zgN, zAsg, zgT, zgsC, zgsN, zApp, zap0, zap, zLc, zclr, zclr2, zbck, zkeep_d, zkeep_n, zDP, zdp0, zdp, zky_i, zky_s, xSorted, xNe_bb, zPop, zpopk, zExt, zextk, zextk2, xUpper, xInW, xIxW, xLt_ss, xLe_ss, xGt_ss, xSl_t, xSl_l, xSl_s, zlNil, zlCons, zpin_d, zpin_l, zpin_k, zpin_b, zlkL0, zlkL1, zCallL, zimm_d, zimm_l, zimm_k, zimm_i, zimm_s, zimm_b, zimm_n, zimm_t, zimm_0, zimm_1, zSortSet, xInS_t, xInS_l, List.length_cons, List.length_nil, List.nil_append, List.append_nil, List.cons_append, true_and, and_true, reduceIte, if_true, if_false, decide_eq_true_eq, Bool.not_true, Bool.not_false, Bool.not_eq_true, Bool.false_eq_true, Nat.reduceAdd, Nat.zero_add, Bool.not_eq_false, decide_false, decide_true, Bool.not_eq_eq_eq_not, Bool.true_eq, decide_not, Bool.not_not, decide_eq_false_iff_not, eq_self]
      exact h q oq (by omega)
    · rw [if_neg c1]
      have c1' : n ≠ 1 := fun e => c1 (by rw [e]; rfl)
      have no : ∀ {R' : Sl → Mu → Prop}, (∀ q : Q, q.Ok → q.n + 1 = n → R' (.d q.D) μ) → fn_p_law_selector f [.dlr, .int ((n : Int) - 1), .lst (ls.map D.str), .lst (vs.map D.str)] μ R' := fun {R'} hR => by
        rw [show (n : Int) - 1 = ((n - 1 : Nat) : Int) from by omega]
        exact sub (n - 1) (by omega) (by omega) fun q oq nq => hR q oq (by omega)
      have nofin : ∀ q : Q, q.Ok → q.n + 1 = n → R (.d (.tup [.str "not", q.D])) μ := fun q oq nq => h (.no q) oq nq
      by_cases c2 : (n : Int) = 2
      · rw [if_pos c2]
        refine no fun q oq nq => ?_
        simp only [xEq_ii, xEq_ss, xEq_nn, xEq_bb, xEq_ni, xEq_in, xNe_ii, xNe_ss, xLt_ii, xGt_ii, xLe_ii, xGe_ii, xAdd_ii, xAdd_ss, xAdd_tt, xAdd_ll, xSub_ii, xMul_ii, xDiv_ii, xMod_ii, xPow_ii, xNeg_i, xInt_i, xInt_b, xLen_t, xLen_l, xLen_s, xLen_d, xTuple_l, xTuple_t, xList_l, xList_t, xIx_t, xIx_l, xIx_s, xIx_di, xIx_ds, at0, at1, at2, at3, at4, at5, at6, at7, xIs_nn, xIs_i, xIs_s, xIs_b, xIs_t, xIs_l, xIs_d, xIsB_n, xIsB_i, xIsB_s, xIsB_b, yInt_i, yInt_b, yInt_n, yInt_s, yInt_t, yInt_l, yBool_i, yBool_b, yBool_n, yBool_s, yBool_t, yBool_l, yStr_i, yStr_b, yStr_n, yStr_s, yStr_t, yStr_l, yTup_i, yTup_b, yTup_n, yTup_s, yTup_t, yTup_l, yLst_i, yLst_n, yLst_s, yLst_t, yLst_l, xIn_it, xIn_il, xIn_sd, xLt_pp, xGt_pp, xLe_pp, xGe_pp, xII, z0, z1, z2, zput0, zput1, zC, zV, zv_d, zv_l, zv_k, zOp, zUn, zlk_d, zlk_l, zlk_k, zlk_b, zls_d, zls_l, zls_k, zfz_d, zfz_l, zfz_k, zfz_b, zfr_l, zfr_k, zfr_d, ztB, zbk, ztT, ztr_b, ztr_i, ztr_n, ztr_t, ztr_l, ztr_s, ztAnd, ztOr, ztNot, zeAnd, zeOr, zeNot, zeIf, zaNil, zaCons, zTup, zLst, zCB, zCall, zCallK, zfdn, zDicK, zpNone, zpSome, zpsk, zSl, zChain, zchk, zSeq, zsNil, zBreak, zCont, zIf, zSet, zs_d, zs_l, zs_k, zs_b, zRet, zr_d, zr_l, zr_k, zr_b, zRetN, zDrop, zFor, ziE, zit_t, zit_l, zit_s, zR1, zr1, zR2, zr2, zgN, zAsg, zgT, zgsC, zgsN, zApp, zap0, zap, zLc, zclr, zclr2, zbck, zkeep_d, zkeep_n, zDP, zdp0, zdp, zky_i, zky_s, xSorted, xNe_bb, zPop, zpopk, zExt, zextk, zextk2, xUpper, xInW, xIxW, xLt_ss, xLe_ss, xGt_ss, xSl_t, xSl_l, xSl_s, zlNil, zlCons, zpin_d, zpin_l, zpin_k, zpin_b, zlkL0, zlkL1, zCallL, zimm_d, zimm_l, zimm_k, zimm_i, zimm_s, zimm_b, zimm_n, zimm_t, zimm_0, zimm_1, zSortSet, xInS_t, xInS_l, List.length_cons, List.length_nil, List.nil_append, List.append_nil, List.cons_append, true_and, and_true, reduceIte, if_true, if_false, decide_eq_true_eq, Bool.not_true, Bool.not_false, Bool.not_eq_true, Bool.false_eq_true, Nat.reduceAdd, Nat.zero_add, Bool.not_eq_false, decide_false, decide_true, Bool.not_eq_eq_eq_not, Bool.true_eq, decide_not, Bool.not_not, decide_eq_false_iff_not, eq_self]
        exact ⟨by decide, nofin q oq nq⟩
      · rw [if_neg c2]
        have c2' : n ≠ 2 := fun e => c2 (by rw [e]; rfl)
        refine deal_ok (by decide) (by decide) fun a a0 a1 => ?_
        simp only [xEq_ii, xEq_ss, xEq_nn, xEq_bb, xEq_ni, xEq_in, xNe_ii, xNe_ss, xLt_ii, xGt_ii, xLe_ii, xGe_ii, xAdd_ii, xAdd_ss, xAdd_tt, xAdd_ll, xSub_ii, xMul_ii, xDiv_ii, xMod_ii, xPow_ii, xNeg_i, xInt_i, xInt_b, xLen_t, xLen_l, xLen_s, xLen_d, xTuple_l, xTuple_t, xList_l, xList_t, xIx_t, xIx_l, xIx_s, xIx_di, xIx_ds, at0, at1, at2, at3, at4, at5, at6, at7, xIs_nn, xIs_i, xIs_s, xIs_b, xIs_t, xIs_l, xIs_d, xIsB_n, xIsB_i, xIsB_s, xIsB_b, yInt_i, yInt_b, yInt_n, yInt_s, yInt_t, yInt_l, yBool_i, yBool_b, yBool_n, yBool_s, yBool_t, yBool_l, yStr_i, yStr_b, yStr_n, yStr_s, yStr_t, yStr_l, yTup_i, yTup_b, yTup_n, yTup_s, yTup_t, yTup_l, yLst_i, yLst_n, yLst_s, yLst_t, yLst_l, xIn_it, xIn_il, xIn_sd, xLt_pp, xGt_pp, xLe_pp, xGe_pp, xII, z0, z1, z2, zput0, zput1, zC, zV, zv_d, zv_l, zv_k, zOp, zUn, zlk_d, zlk_l, zlk_k, zlk_b, zls_d, zls_l, zls_k, zfz_d, zfz_l, zfz_k, zfz_b, zfr_l, zfr_k, zfr_d, ztB, zbk, ztT, ztr_b, ztr_i, ztr_n, ztr_t, ztr_l, ztr_s, ztAnd, ztOr, ztNot, zeAnd, zeOr, zeNot, zeIf, zaNil, zaCons, zTup, zLst, zCB, zCall, zCallK, zfdn, zDicK, zpNone, zpSome, zpsk, zSl, zChain, zchk, zSeq, zsNil, zBreak, zCont, zIf, zSet, zs_d, zs_l, zs_k, zs_b, zRet, zr_d, zr_l, zr_k, zr_b, zRetN, zDrop, zFor, ziE, zit_t, zit_l, zit_s, zR1, zr1, zR2, zr2, zgN, zAsg, zgT, zgsC, zgsN, zApp, zap0, zap, zLc, zclr, zclr2, zbck, zkeep_d, zkeep_n, zDP, zdp0, zdp, zky_i, zky_s, xSorted, xNe_bb, zPop, zpopk, zExt, zextk, zextk2, xUpper, xInW, xIxW, xLt_ss, xLe_ss, xGt_ss, xSl_t, xSl_l, xSl_s, zlNil, zlCons, zpin_d, zpin_l, zpin_k, zpin_b, zlkL0, zlkL1, zCallL, zimm_d, zimm_l, zimm_k, zimm_i, zimm_s, zimm_b, zimm_n, zimm_t, zimm_0, zimm_1, zSortSet, xInS_t, xInS_l, List.length_cons, List.length_nil, List.nil_append, List.append_nil, List.cons_append, true_and, and_true, reduceIte, if_true, if_false, decide_eq_true_eq, Bool.not_true, Bool.not_false, Bool.not_eq_true, Bool.false_eq_true, Nat.reduceAdd, Nat.zero_add, Bool.not_eq_false, decide_false, decide_true, Bool.not_eq_eq_eq_not, Bool.true_eq, decide_not, Bool.not_not, decide_eq_false_iff_not, eq_self]
        by_cases c3 : a = 0
        · rw [if_pos c3]
          refine no fun q oq nq => ?_
          simp only [xEq_ii, xEq_ss, xEq_nn, xEq_bb, xEq_ni, xEq_in, xNe_ii, xNe_ss, xLt_ii, xGt_ii, xLe_ii, xGe_ii, xAdd_ii, xAdd_ss, xAdd_tt, xAdd_ll, xSub_ii, xMul_ii, xDiv_ii, xMod_ii, xPow_ii, xNeg_i, xInt_i, xInt_b, xLen_t, xLen_l, xLen_s, xLen_d, xTuple_l, xTuple_t, xList_l, xList_t, xIx_t, xIx_l, xIx_s, xIx_di, xIx_ds, at0, at1, at2, at3, at4, at5, at6, at7, xIs_nn, xIs_i, xIs_s, xIs_b, xIs_t, xIs_l, xIs_d, xIsB_n, xIsB_i, xIsB_s, xIsB_b, yInt_i, yInt_b, yInt_n, yInt_s, yInt_t, yInt_l, yBool_i, yBool_b, yBool_n, yBool_s, yBool_t, yBool_l, yStr_i, yStr_b, yStr_n, yStr_s, yStr_t, yStr_l, yTup_i, yTup_b, yTup_n, yTup_s, yTup_t, yTup_l, yLst_i, yLst_n, yLst_s, yLst_t, yLst_l, xIn_it, xIn_il, xIn_sd, xLt_pp, xGt_pp, xLe_pp, xGe_pp, xII, z0, z1, z2, zput0, zput1, zC, zV, zv_d, zv_l, zv_k, zOp, zUn, zlk_d, zlk_l, zlk_k, zlk_b, zls_d, zls_l, zls_k, zfz_d, zfz_l, zfz_k, zfz_b, zfr_l, zfr_k, zfr_d, ztB, zbk, ztT, ztr_b, ztr_i, ztr_n, ztr_t, ztr_l, ztr_s, ztAnd, ztOr, ztNot, zeAnd, zeOr, zeNot, zeIf, zaNil, zaCons, zTup, zLst, zCB, zCall, zCallK, zfdn, zDicK, zpNone, zpSome, zpsk, zSl, zChain, zchk, zSeq, zsNil, zBreak, zCont, zIf, zSet, zs_d, zs_l, zs_k, zs_b, zRet, zr_d, zr_l, zr_k, zr_b, zRetN, zDrop, zFor, ziE, zit_t, zit_l, zit_s, zR1, zr1, zR2, zr2, zgN, zAsg, zgT, zgsC, zgsN, zApp, zap0, zap, zLc, zclr, zclr2, zbck, zkeep_d, zkeep_n, zDP, zdp0, zdp, zky_i, zky_s, xSorted, xNe_bb, zPop, zpopk, zExt, zextk, zextk2, xUpper, xInW, xIxW, xLt_ss, xLe_ss, xGt_ss, xSl_t, xSl_l, xSl_s, zlNil, zlCons, zpin_d, zpin_l, zpin_k, zpin_b, zlkL0, zlkL1, zCallL, zimm_d, zimm_l, zimm_k, zimm_i, zimm_s, zimm_b, zimm_n, zimm_t, zimm_0, zimm_1, zSortSet, xInS_t, xInS_l, List.length_cons, List.length_nil, List.nil_append, List.append_nil, List.cons_append, true_and, and_true, reduceIte, if_true, if_false, decide_eq_true_eq, Bool.not_true, Bool.not_false, Bool.not_eq_true, Bool.false_eq_true, Nat.reduceAdd, Nat.zero_add, Bool.not_eq_false, decide_false, decide_true, Bool.not_eq_eq_eq_not, Bool.true_eq, decide_not, Bool.not_not, decide_eq_false_iff_not, eq_self]
          exact ⟨by decide, nofin q oq nq⟩
        · rw [if_neg c3]
          have last : ∀ (k : Nat), 1 ≤ k → k + 2 ≤ n → ∀ y5, sSeq (sSet 5 (eCall (fdn 4 (fn_p_law_selector f)) [] (aCons (eV 0) (aCons (eV 4) (aCons (eV 2) (aCons (eV 3) (aNil)))))))
              (sRet (eTup (aCons (eCall (fdn 2 (fn_p_law_one)) [] (aCons (eV 0) (aCons (eTup (aCons (eC (.str "and")) (aCons (eC (.str "or")) (aNil)))) (aNil)))) (aCons (eV 5) (aCons (eCall (fdn 4 (fn_p_law_selector f)) [] (aCons (eV 0) (aCons (eOp oSub (eOp oSub (eV 1) (eC (.int 1))) (eV 4)) (aCons (eV 2) (aCons (eV 3) (aNil)))))) (aNil)))))) { nx := fun s => R (.d .non) s.μ, rt := R }
              ⟨[.d .dlr, .d (.int (n : Nat)), .d (.lst (ls.map D.str)), .d (.lst (vs.map D.str)), .d (.int (k : Nat)), y5], μ⟩ := fun k k1 k2 y5 => by
            simp only [xEq_ii, xEq_ss, xEq_nn, xEq_bb, xEq_ni, xEq_in, xNe_ii, xNe_ss, xLt_ii, xGt_ii, xLe_ii, xGe_ii, xAdd_ii, xAdd_ss, xAdd_tt, xAdd_ll, xSub_ii, xMul_ii, xDiv_ii, xMod_ii, xPow_ii, xNeg_i, xInt_i, xInt_b, xLen_t, xLen_l, xLen_s, xLen_d, xTuple_l, xTuple_t, xList_l, xList_t, xIx_t, xIx_l, xIx_s, xIx_di, xIx_ds, at0, at1, at2, at3, at4, at5, at6, at7, xIs_nn, xIs_i, xIs_s, xIs_b, xIs_t, xIs_l, xIs_d, xIsB_n, xIsB_i, xIsB_s, xIsB_b, yInt_i, yInt_b, yInt_n, yInt_s, yInt_t, yInt_l, yBool_i, yBool_b, yBool_n, yBool_s, yBool_t, yBool_l, yStr_i, yStr_b, yStr_n, yStr_s, yStr_t, yStr_l, yTup_i, yTup_b, yTup_n, yTup_s, yTup_t, yTup_l, yLst_i, yLst_n, yLst_s, yLst_t, yLst_l, xIn_it, xIn_il, xIn_sd, xLt_pp, xGt_pp, xLe_pp, xGe_pp, xII, z0, z1, z2, zput0, zput1, zC, zV, zv_d, zv_l, zv_k, zOp, zUn, zlk_d, zlk_l, zlk_k, zlk_b, zls_d, zls_l, zls_k, zfz_d, zfz_l, zfz_k, zfz_b, zfr_l, zfr_k, zfr_d, ztB, zbk, ztT, ztr_b, ztr_i, ztr_n, ztr_t, ztr_l, ztr_s, ztAnd, ztOr, ztNot, zeAnd, zeOr, zeNot, zeIf, zaNil, zaCons, zTup, zLst, zCB, zCall, zCallK, zfdn, zDicK, zpNone, zpSome, zpsk, zSl, zChain, zchk, zSeq, zsNil, zBreak, zCont, zIf, zSet, zs_d, zs_l, zs_k, zs_b, zRet, zr_d, zr_l, zr_k, zr_b, zRetN, zDrop, zFor, ziE, zit_t, zit_l, zit_s, zR1, zr1, zR2, zr2, zgN, zAsg, zgT, zgsC, zgsN, zApp, zap0, zap, zLc, zclr, zclr2, zbck, zkeep_d, zkeep_n, zDP, zdp0, zdp, zky_i, zky_s, xSorted, xNe_bb, zPop, zpopk, zExt, zextk, zextk2, xUpper, xInW, xIxW, xLt_ss, xLe_ss, xGt_ss, xSl_t, xSl_l, xSl_s, zlNil, zlCons, zpin_d, zpin_l, zpin_k, zpin_b, zlkL0, zlkL1, zCallL, zimm_d, zimm_l, zimm_k, zimm_i, zimm_s, zimm_b, zimm_n, zimm_t, zimm_0, zimm_1, zSortSet, xInS_t, xInS_l, List.length_cons, List.length_nil, List.nil_append, List.append_nil, List.cons_append, true_and, and_true, reduceIte, if_true, if_false, decide_eq_true_eq, Bool.not_true, Bool.not_false, Bool.not_eq_true, Bool.false_eq_true, Nat.reduceAdd, Nat.zero_add, Bool.not_eq_false, decide_false, decide_true, Bool.not_eq_eq_eq_not, Bool.true_eq, decide_not, Bool.not_not, decide_eq_false_iff_not, eq_self]
            refine sub k k1 (by omega) fun p op np => ?_
            simp only [xEq_ii, xEq_ss, xEq_nn, xEq_bb, xEq_ni, xEq_in, xNe_ii, xNe_ss, xLt_ii, xGt_ii, xLe_ii, xGe_ii, xAdd_ii, xAdd_ss, xAdd_tt, xAdd_ll, xSub_ii, xMul_ii, xDiv_ii, xMod_ii, xPow_ii, xNeg_i, xInt_i, xInt_b, xLen_t, xLen_l, xLen_s, xLen_d, xTuple_l, xTuple_t, xList_l, xList_t, xIx_t, xIx_l, xIx_s, xIx_di, xIx_ds, at0, at1, at2, at3, at4, at5, at6, at7, xIs_nn, xIs_i, xIs_s, xIs_b, xIs_t, xIs_l, xIs_d, xIsB_n, xIsB_i, xIsB_s, xIsB_b, yInt_i, yInt_b, yInt_n, yInt_s, yInt_t, yInt_l, yBool_i, yBool_b, yBool_n, yBool_s, yBool_t, yBool_l, yStr_i, yStr_b, yStr_n, yStr_s, yStr_t, yStr_l, yTup_i, yTup_b, yTup_n, yTup_s, yTup_t, yTup_l, yLst_i, yLst_n, yLst_s, yLst_t, yLst_l, xIn_it, xIn_il, xIn_sd, xLt_pp, xGt_pp, xLe_pp, xGe_pp, xII, z0, z1, z2, zput0, zput1, zC, zV, zv_d, zv_l, zv_k, zOp, zUn, zlk_d, zlk_l, zlk_k, zlk_b, zls_d, zls_l, zls_k, zfz_d, zfz_l, zfz_k, zfz_b, zfr_l, zfr_k, zfr_d, ztB, zbk, ztT, ztr_b, ztr_i, ztr_n, ztr_t, ztr_l, ztr_s, ztAnd, ztOr, ztNot, zeAnd, zeOr, zeNot, zeIf, zaNil, zaCons, zTup, zLst, zCB, zCall, zCallK, zfdn, zDicK, zpNone, zpSome, zpsk, zSl, zChain, zchk, zSeq, zsNil, zBreak, zCont, zIf, zSet, zs_d, zs_l, zs_k, zs_b, zRet, zr_d, zr_l, zr_k, zr_b, zRetN, zDrop, zFor, ziE, zit_t, zit_l, zit_s, zR1, zr1, zR2, zr2, zgN, zAsg, zgT, zgsC, zgsN, zApp, zap0, zap, zLc, zclr, zclr2, zbck, zkeep_d, zkeep_n, zDP, zdp0, zdp, zky_i, zky_s, xSorted, xNe_bb, zPop, zpopk, zExt, zextk, zextk2, xUpper, xInW, xIxW, xLt_ss, xLe_ss, xGt_ss, xSl_t, xSl_l, xSl_s, zlNil, zlCons, zpin_d, zpin_l, zpin_k, zpin_b, zlkL0, zlkL1, zCallL, zimm_d, zimm_l, zimm_k, zimm_i, zimm_s, zimm_b, zimm_n, zimm_t, zimm_0, zimm_1, zSortSet, xInS_t, xInS_l, List.length_cons, List.length_nil, List.nil_append, List.append_nil, List.cons_append, true_and, and_true, reduceIte, if_true, if_false, decide_eq_true_eq, Bool.not_true, Bool.not_false, Bool.not_eq_true, Bool.false_eq_true, Nat.reduceAdd, Nat.zero_add, Bool.not_eq_false, decide_false, decide_true, Bool.not_eq_eq_eq_not, Bool.true_eq, decide_not, Bool.not_not, decide_eq_false_iff_not, eq_self]
            refine ⟨by decide, one_t (by decide) (by decide) fun d hd => ?_⟩
            simp only [xEq_ii, xEq_ss, xEq_nn, xEq_bb, xEq_ni, xEq_in, xNe_ii, xNe_ss, xLt_ii, xGt_ii, xLe_ii, xGe_ii, xAdd_ii, xAdd_ss, xAdd_tt, xAdd_ll, xSub_ii, xMul_ii, xDiv_ii, xMod_ii, xPow_ii, xNeg_i, xInt_i, xInt_b, xLen_t, xLen_l, xLen_s, xLen_d, xTuple_l, xTuple_t, xList_l, xList_t, xIx_t, xIx_l, xIx_s, xIx_di, xIx_ds, at0, at1, at2, at3, at4, at5, at6, at7, xIs_nn, xIs_i, xIs_s, xIs_b, xIs_t, xIs_l, xIs_d, xIsB_n, xIsB_i, xIsB_s, xIsB_b, yInt_i, yInt_b, yInt_n, yInt_s, yInt_t, yInt_l, yBool_i, yBool_b, yBool_n, yBool_s, yBool_t, yBool_l, yStr_i, yStr_b, yStr_n, yStr_s, yStr_t, yStr_l, yTup_i, yTup_b, yTup_n, yTup_s, yTup_t, yTup_l, yLst_i, yLst_n, yLst_s, yLst_t, yLst_l, xIn_it, xIn_il, xIn_sd, xLt_pp, xGt_pp, xLe_pp, xGe_pp, xII, z0, z1, z2, zput0, zput1, zC, zV, zv_d, zv_l, zv_k, zOp, zUn, zlk_d, zlk_l, zlk_k, zlk_b, zls_d, zls_l, zls_k, zfz_d, zfz_l, zfz_k, zfz_b, zfr_l, zfr_k, zfr_d, ztB, zbk, ztT, ztr_b, ztr_i, ztr_n, ztr_t, ztr_l, ztr_s, ztAnd, ztOr, ztNot, zeAnd, zeOr, zeNot, zeIf, zaNil, zaCons, zTup, zLst, zCB, zCall, zCallK, zfdn, zDicK, zpNone, zpSome, zpsk, zSl, zChain, zchk, zSeq, zsNil, zBreak, zCont, zIf, zSet, zs_d, zs_l, zs_k, zs_b, zRet, zr_d, zr_l, zr_k, zr_b, zRetN, zDrop, zFor, ziE, zit_t, zit_l, zit_s, zR1, zr1, zR2, zr2, zgN, zAsg, zgT, zgsC, zgsN, zApp, zap0, zap, zLc, zclr, zclr2, zbck, zkeep_d, zkeep_n, zDP, zdp0, zdp, zky_i, zky_s, xSorted, xNe_bb, zPop, zpopk, zExt, zextk, zextk2, xUpper, xInW, xIxW, xLt_ss, xLe_ss, xGt_ss, xSl_t, xSl_l, xSl_s, zlNil, zlCons, zpin_d, zpin_l, zpin_k, zpin_b, zlkL0, zlkL1, zCallL, zimm_d, zimm_l, zimm_k, zimm_i, zimm_s, zimm_b, zimm_n, zimm_t, zimm_0, zimm_1, zSortSet, xInS_t, xInS_l, List.length_cons, List.length_nil, List.nil_append, List.append_nil, List.cons_append, true_and, and_true, reduceIte, if_true, if_false, decide_eq_true_eq, Bool.not_true, Bool.not_false, Bool.not_eq_true, Bool.false_eq_true, Nat.reduceAdd, Nat.zero_add, Bool.not_eq_false, decide_false, decide_true, Bool.not_eq_eq_eq_not, Bool.true_eq, decide_not, Bool.not_not, decide_eq_false_iff_not, eq_self]
            rw [show (n : Int) - 1 - (k : Int) = ((n - 1 - k : Nat) : Int) from by omega]
            refine sub (n - 1 - k) (by omega) (by omega) fun q oq nq => ?_
            simp only [xEq_ii, xEq_ss, xEq_nn, xEq_bb, xEq_ni, xEq_in, xNe_ii, xNe_ss, xLt_ii, xGt_ii, xLe_ii, xGe_ii, xAdd_ii, xAdd_ss, xAdd_tt, xAdd_ll, xSub_ii, xMul_ii, xDiv_ii, xMod_ii, xPow_ii, xNeg_i, xInt_i, xInt_b, xLen_t, xLen_l, xLen_s, xLen_d, xTuple_l, xTuple_t, xList_l, xList_t, xIx_t, xIx_l, xIx_s, xIx_di, xIx_ds, at0, at1, at2, at3, at4, at5, at6, at7, xIs_nn, xIs_i, xIs_s, xIs_b, xIs_t, xIs_l, xIs_d, xIsB_n, xIsB_i, xIsB_s, xIsB_b, yInt_i, yInt_b, yInt_n, yInt_s, yInt_t, yInt_l, yBool_i, yBool_b, yBool_n, yBool_s, yBool_t, yBool_l, yStr_i, yStr_b, yStr_n, yStr_s, yStr_t, yStr_l, yTup_i, yTup_b, yTup_n, yTup_s, yTup_t, yTup_l, yLst_i, yLst_n, yLst_s, yLst_t, yLst_l, xIn_it, xIn_il, xIn_sd, xLt_pp, xGt_pp, xLe_pp, xGe_pp, xII, z0, z1, z2, zput0, zput1, zC, zV, zv_d, zv_l, zv_k, zOp, zUn, zlk_d, zlk_l, zlk_k, zlk_b, zls_d, zls_l, zls_k, zfz_d, zfz_l, zfz_k, zfz_b, zfr_l, zfr_k, zfr_d, ztB, zbk, ztT, ztr_b, ztr_i, ztr_n, ztr_t, ztr_l, ztr_s, ztAnd, ztOr, ztNot, zeAnd, zeOr, zeNot, zeIf, zaNil, zaCons, zTup, zLst, zCB, zCall, zCallK, zfdn, zDicK, zpNone, zpSome, zpsk, zSl, zChain, zchk, zSeq, zsNil, zBreak, zCont, zIf, zSet, zs_d, zs_l, zs_k, zs_b, zRet, zr_d, zr_l, zr_k, zr_b, zRetN, zDrop, zFor, ziE, zit_t, zit_l, zit_s, zR1, zr1, zR2, zr2, zgN, zAsg, zgT, zgsC, zgsN, zApp, zap0, zap, zLc, zclr, zclr2, zbck, zkeep_d, zkeep_n, zDP, zdp0, zdp, zky_i, zky_s, xSorted, xNe_bb, zPop, zpopk, zExt, zextk, zextk2, xUpper, xInW, xIxW, xLt_ss, xLe_ss, xGt_ss, xSl_t, xSl_l, xSl_s, zlNil, zlCons, zpin_d, zpin_l, zpin_k, zpin_b, zlkL0, zlkL1, zCallL, zimm_d, zimm_l, zimm_k, zimm_i, zimm_s, zimm_b, zimm_n, zimm_t, zimm_0, zimm_1, zSortSet, xInS_t, xInS_l, List.length_cons, List.length_nil, List.nil_append, List.append_nil, List.cons_append, true_and, and_true, reduceIte, if_true, if_false, decide_eq_true_eq, Bool.not_true, Bool.not_false, Bool.not_eq_true, Bool.false_eq_true, Nat.reduceAdd, Nat.zero_add, Bool.not_eq_false, decide_false, decide_true, Bool.not_eq_eq_eq_not, Bool.true_eq, decide_not, Bool.not_not, decide_eq_false_iff_not, eq_self]
            refine ⟨by decide, ?_⟩
            simp only [List.mem_cons, List.not_mem_nil, or_false] at hd
            rcases hd with rfl | rfl
            · exact h (.bo true p q) ⟨op, oq⟩ (by show p.n + q.n + 1 = n; omega)
            · exact h (.bo false p q) ⟨op, oq⟩ (by show p.n + q.n + 1 = n; omega)
          have mid : ∀ (m : Nat), m + 3 ≤ n → sSeq (I_p_law_selector_0) (sSeq (sSet 5 (eCall (fdn 4 (fn_p_law_selector f)) [] (aCons (eV 0) (aCons (eV 4) (aCons (eV 2) (aCons (eV 3) (aNil)))))))
              (sRet (eTup (aCons (eCall (fdn 2 (fn_p_law_one)) [] (aCons (eV 0) (aCons (eTup (aCons (eC (.str "and")) (aCons (eC (.str "or")) (aNil)))) (aNil)))) (aCons (eV 5) (aCons (eCall (fdn 4 (fn_p_law_selector f)) [] (aCons (eV 0) (aCons (eOp oSub (eOp oSub (eV 1) (eC (.int 1))) (eV 4)) (aCons (eV 2) (aCons (eV 3) (aNil)))))) (aNil))))))) { nx := fun s => R (.d .non) s.μ, rt := R }
              ⟨[.d .dlr, .d (.int (n : Nat)), .d (.lst (ls.map D.str)), .d (.lst (vs.map D.str)), .d (.int (1 + (m : Nat))), .no], μ⟩ := fun m hm => by
            rw [zSeq, I_p_law_selector_0_eq]
            simp only [zIf, xEq_ii, xEq_ss, xEq_nn, xEq_bb, xEq_ni, xEq_in, xNe_ii, xNe_ss, xLt_ii, xGt_ii, xLe_ii, xGe_ii, xAdd_ii, xAdd_ss, xAdd_tt, xAdd_ll, xSub_ii, xMul_ii, xDiv_ii, xMod_ii, xPow_ii, xNeg_i, xInt_i, xInt_b, xLen_t, xLen_l, xLen_s, xLen_d, xTuple_l, xTuple_t, xList_l, xList_t, xIx_t, xIx_l, xIx_s, xIx_di, xIx_ds, at0, at1, at2, at3, at4, at5, at6, at7, xIs_nn, xIs_i, xIs_s, xIs_b, xIs_t, xIs_l, xIs_d, xIsB_n, xIsB_i, xIsB_s, xIsB_b, yInt_i, yInt_b, yInt_n, yInt_s, yInt_t, yInt_l, yBool_i, yBool_b, yBool_n, yBool_s, yBool_t, yBool_l, yStr_i, yStr_b, yStr_n, yStr_s, yStr_t, yStr_l, yTup_i, yTup_b, yTup_n, yTup_s, yTup_t, yTup_l, yLst_i, yLst_n, yLst_s, yLst_t, yLst_l, xIn_it, xIn_il, xIn_sd, xLt_pp, xGt_pp, xLe_pp, xGe_pp, xII, z0, z1, z2, zput0, zput1, zC, zV, zv_d, zv_l, zv_k, zOp, zUn, zlk_d, zlk_l, zlk_k, zlk_b, zls_d, zls_l, zls_k, zfz_d, zfz_l, zfz_k, zfz_b, zfr_l, zfr_k, zfr_d, ztB, zbk, ztT, ztr_b, ztr_i, ztr_n, ztr_t, ztr_l, ztr_s, ztAnd, ztOr, ztNot, zeAnd, zeOr, zeNot, zeIf, zaNil, zaCons, zTup, zLst, zCB, zCall, zCallK, zfdn, zDicK, zpNone, zpSome, zpsk, zSl, zChain, zchk, zSeq, zsNil, zBreak, zCont, zIf, zSet, zs_d, zs_l, zs_k, zs_b, zRet, zr_d, zr_l, zr_k, zr_b, zRetN, zDrop, zFor, ziE, zit_t, zit_l, zit_s, zR1, zr1, zR2, zr2, zgN, zAsg, zgT, zgsC, zgsN, zApp, zap0, zap, zLc, zclr, zclr2, zbck, zkeep_d, zkeep_n, zDP, zdp0, zdp, zky_i, zky_s, xSorted, xNe_bb, zPop, zpopk, zExt, zextk, zextk2, xUpper, xInW, xIxW, xLt_ss, xLe_ss, xGt_ss, xSl_t, xSl_l, xSl_s, zlNil, zlCons, zpin_d, zpin_l, zpin_k, zpin_b, zlkL0, zlkL1, zCallL, zimm_d, zimm_l, zimm_k, zimm_i, zimm_s, zimm_b, zimm_n, zimm_t, zimm_0, zimm_1, zSortSet, xInS_t, xInS_l, List.length_cons, List.length_nil, List.nil_append, List.append_nil, List.cons_append, true_and, and_true, reduceIte, if_true, if_false, decide_eq_true_eq, Bool.not_true, Bool.not_false, Bool.not_eq_true, Bool.false_eq_true, Nat.reduceAdd, Nat.zero_add, Bool.not_eq_false, decide_false, decide_true, Bool.not_eq_eq_eq_not, Bool.true_eq, decide_not, Bool.not_not, decide_eq_false_iff_not, eq_self]
            refine deal_ok (by decide) (by decide) fun b b0 b1 => ?_
            simp only [xEq_ii, xEq_ss, xEq_nn, xEq_bb, xEq_ni, xEq_in, xNe_ii, xNe_ss, xLt_ii, xGt_ii, xLe_ii, xGe_ii, xAdd_ii, xAdd_ss, xAdd_tt, xAdd_ll, xSub_ii, xMul_ii, xDiv_ii, xMod_ii, xPow_ii, xNeg_i, xInt_i, xInt_b, xLen_t, xLen_l, xLen_s, xLen_d, xTuple_l, xTuple_t, xList_l, xList_t, xIx_t, xIx_l, xIx_s, xIx_di, xIx_ds, at0, at1, at2, at3, at4, at5, at6, at7, xIs_nn, xIs_i, xIs_s, xIs_b, xIs_t, xIs_l, xIs_d, xIsB_n, xIsB_i, xIsB_s, xIsB_b, yInt_i, yInt_b, yInt_n, yInt_s, yInt_t, yInt_l, yBool_i, yBool_b, yBool_n, yBool_s, yBool_t, yBool_l, yStr_i, yStr_b, yStr_n, yStr_s, yStr_t, yStr_l, yTup_i, yTup_b, yTup_n, yTup_s, yTup_t, yTup_l, yLst_i, yLst_n, yLst_s, yLst_t, yLst_l, xIn_it, xIn_il, xIn_sd, xLt_pp, xGt_pp, xLe_pp, xGe_pp, xII, z0, z1, z2, zput0, zput1, zC, zV, zv_d, zv_l, zv_k, zOp, zUn, zlk_d, zlk_l, zlk_k, zlk_b, zls_d, zls_l, zls_k, zfz_d, zfz_l, zfz_k, zfz_b, zfr_l, zfr_k, zfr_d, ztB, zbk, ztT, ztr_b, ztr_i, ztr_n, ztr_t, ztr_l, ztr_s, ztAnd, ztOr, ztNot, zeAnd, zeOr, zeNot, zeIf, zaNil, zaCons, zTup, zLst, zCB, zCall, zCallK, zfdn, zDicK, zpNone, zpSome, zpsk, zSl, zChain, zchk, zSeq, zsNil, zBreak, zCont, zIf, zSet, zs_d, zs_l, zs_k, zs_b, zRet, zr_d, zr_l, zr_k, zr_b, zRetN, zDrop, zFor, ziE, zit_t, zit_l, zit_s, zR1, zr1, zR2, zr2, zgN, zAsg, zgT, zgsC, zgsN, zApp, zap0, zap, zLc, zclr, zclr2, zbck, zkeep_d, zkeep_n, zDP, zdp0, zdp, zky_i, zky_s, xSorted, xNe_bb, zPop, zpopk, zExt, zextk, zextk2, xUpper, xInW, xIxW, xLt_ss, xLe_ss, xGt_ss, xSl_t, xSl_l, xSl_s, zlNil, zlCons, zpin_d, zpin_l, zpin_k, zpin_b, zlkL0, zlkL1, zCallL, zimm_d, zimm_l, zimm_k, zimm_i, zimm_s, zimm_b, zimm_n, zimm_t, zimm_0, zimm_1, zSortSet, xInS_t, xInS_l, List.length_cons, List.length_nil, List.nil_append, List.append_nil, List.cons_append, true_and, and_true, reduceIte, if_true, if_false, decide_eq_true_eq, Bool.not_true, Bool.not_false, Bool.not_eq_true, Bool.false_eq_true, Nat.reduceAdd, Nat.zero_add, Bool.not_eq_false, decide_false, decide_true, Bool.not_eq_eq_eq_not, Bool.true_eq, decide_not, Bool.not_not, decide_eq_false_iff_not, eq_self]
            by_cases c4 : b = 0
            · rw [if_pos c4]
              rw [show (n : Int) - 1 - (1 + (m : Int)) = ((n - 2 - m : Nat) : Int) from by omega]
              have := last (n - 2 - m) (by omega) (by omega) .no
              simp only [xEq_ii, xEq_ss, xEq_nn, xEq_bb, xEq_ni, xEq_in, xNe_ii, xNe_ss, xLt_ii, xGt_ii, xLe_ii, xGe_ii, xAdd_ii, xAdd_ss, xAdd_tt, xAdd_ll, xSub_ii, xMul_ii, xDiv_ii, xMod_ii, xPow_ii, xNeg_i, xInt_i, xInt_b, xLen_t, xLen_l, xLen_s, xLen_d, xTuple_l, xTuple_t, xList_l, xList_t, xIx_t, xIx_l, xIx_s, xIx_di, xIx_ds, at0, at1, at2, at3, at4, at5, at6, at7, xIs_nn, xIs_i, xIs_s, xIs_b, xIs_t, xIs_l, xIs_d, xIsB_n, xIsB_i, xIsB_s, xIsB_b, yInt_i, yInt_b, yInt_n, yInt_s, yInt_t, yInt_l, yBool_i, yBool_b, yBool_n, yBool_s, yBool_t, yBool_l, yStr_i, yStr_b, yStr_n, yStr_s, yStr_t, yStr_l, yTup_i, yTup_b, yTup_n, yTup_s, yTup_t, yTup_l, yLst_i, yLst_n, yLst_s, yLst_t, yLst_l, xIn_it, xIn_il, xIn_sd, xLt_pp, xGt_pp, xLe_pp, xGe_pp, xII, z0, z1, z2, zput0, zput1, zC, zV, zv_d, zv_l, zv_k, zOp, zUn, zlk_d, zlk_l, zlk_k, zlk_b, zls_d, zls_l, zls_k, zfz_d, zfz_l, zfz_k, zfz_b, zfr_l, zfr_k, zfr_d, ztB, zbk, ztT, ztr_b, ztr_i, ztr_n, ztr_t, ztr_l, ztr_s, ztAnd, ztOr, ztNot, zeAnd, zeOr, zeNot, zeIf, zaNil, zaCons, zTup, zLst, zCB, zCall, zCallK, zfdn, zDicK, zpNone, zpSome, zpsk, zSl, zChain, zchk, zSeq, zsNil, zBreak, zCont, zIf, zSet, zs_d, zs_l, zs_k, zs_b, zRet, zr_d, zr_l, zr_k, zr_b, zRetN, zDrop, zFor, ziE, zit_t, zit_l, zit_s, zR1, zr1, zR2, zr2, zgN, zAsg, zgT, zgsC, zgsN, zApp, zap0, zap, zLc, zclr, zclr2, zbck, zkeep_d, zkeep_n, zDP, zdp0, zdp, zky_i, zky_s, xSorted, xNe_bb, zPop, zpopk, zExt, zextk, zextk2, xUpper, xInW, xIxW, xLt_ss, xLe_ss, xGt_ss, xSl_t, xSl_l, xSl_s, zlNil, zlCons, zpin_d, zpin_l, zpin_k, zpin_b, zlkL0, zlkL1, zCallL, zimm_d, zimm_l, zimm_k, zimm_i, zimm_s, zimm_b, zimm_n, zimm_t, zimm_0, zimm_1, zSortSet, xInS_t, xInS_l, List.length_cons, List.length_nil, List.nil_append, List.append_nil, List.cons_append, true_and, and_true, reduceIte, if_true, if_false, decide_eq_true_eq, Bool.not_true, Bool.not_false, Bool.not_eq_true, Bool.false_eq_true, Nat.reduceAdd, Nat.zero_add, Bool.not_eq_false, decide_false, decide_true, Bool.not_eq_eq_eq_not, Bool.true_eq, decide_not, Bool.not_not, decide_eq_false_iff_not, eq_self] at this
              exact this
            · rw [if_neg c4]
              have := last (1 + m) (by omega) (by omega) .no
              simp only [xEq_ii, xEq_ss, xEq_nn, xEq_bb, xEq_ni, xEq_in, xNe_ii, xNe_ss, xLt_ii, xGt_ii, xLe_ii, xGe_ii, xAdd_ii, xAdd_ss, xAdd_tt, xAdd_ll, xSub_ii, xMul_ii, xDiv_ii, xMod_ii, xPow_ii, xNeg_i, xInt_i, xInt_b, xLen_t, xLen_l, xLen_s, xLen_d, xTuple_l, xTuple_t, xList_l, xList_t, xIx_t, xIx_l, xIx_s, xIx_di, xIx_ds, at0, at1, at2, at3, at4, at5, at6, at7, xIs_nn, xIs_i, xIs_s, xIs_b, xIs_t, xIs_l, xIs_d, xIsB_n, xIsB_i, xIsB_s, xIsB_b, yInt_i, yInt_b, yInt_n, yInt_s, yInt_t, yInt_l, yBool_i, yBool_b, yBool_n, yBool_s, yBool_t, yBool_l, yStr_i, yStr_b, yStr_n, yStr_s, yStr_t, yStr_l, yTup_i, yTup_b, yTup_n, yTup_s, yTup_t, yTup_l, yLst_i, yLst_n, yLst_s, yLst_t, yLst_l, xIn_it, xIn_il, xIn_sd, xLt_pp, xGt_pp, xLe_pp, xGe_pp, xII, z0, z1, z2, zput0, zput1, zC, zV, zv_d, zv_l, zv_k, zOp, zUn, zlk_d, zlk_l, zlk_k, zlk_b, zls_d, zls_l, zls_k, zfz_d, zfz_l, zfz_k, zfz_b, zfr_l, zfr_k, zfr_d, ztB, zbk, ztT, ztr_b, ztr_i, ztr_n, ztr_t, ztr_l, ztr_s, ztAnd, ztOr, ztNot, zeAnd, zeOr, zeNot, zeIf, zaNil, zaCons, zTup, zLst, zCB, zCall, zCallK, zfdn, zDicK, zpNone, zpSome, zpsk, zSl, zChain, zchk, zSeq, zsNil, zBreak, zCont, zIf, zSet, zs_d, zs_l, zs_k, zs_b, zRet, zr_d, zr_l, zr_k, zr_b, zRetN, zDrop, zFor, ziE, zit_t, zit_l, zit_s, zR1, zr1, zR2, zr2, zgN, zAsg, zgT, zgsC, zgsN, zApp, zap0, zap, zLc, zclr, zclr2, zbck, zkeep_d, zkeep_n, zDP, zdp0, zdp, zky_i, zky_s, xSorted, xNe_bb, zPop, zpopk, zExt, zextk, zextk2, xUpper, xInW, xIxW, xLt_ss, xLe_ss, xGt_ss, xSl_t, xSl_l, xSl_s, zlNil, zlCons, zpin_d, zpin_l, zpin_k, zpin_b, zlkL0, zlkL1, zCallL, zimm_d, zimm_l, zimm_k, zimm_i, zimm_s, zimm_b, zimm_n, zimm_t, zimm_0, zimm_1, zSortSet, xInS_t, xInS_l, List.length_cons, List.length_nil, List.nil_append, List.append_nil, List.cons_append, true_and, and_true, reduceIte, if_true, if_false, decide_eq_true_eq, Bool.not_true, Bool.not_false, Bool.not_eq_true, Bool.false_eq_true, Nat.reduceAdd, Nat.zero_add, Bool.not_eq_false, decide_false, decide_true, Bool.not_eq_eq_eq_not, Bool.true_eq, decide_not, Bool.not_not, decide_eq_false_iff_not, eq_self] at this
              rw [show (1 + (m : Int)) = ((1 + m : Nat) : Int) from by omega]
              exact this
          refine deal_ok (by decide) (by decide) fun b b0 b1 => ?_
          simp only [xEq_ii, xEq_ss, xEq_nn, xEq_bb, xEq_ni, xEq_in, xNe_ii, xNe_ss, xLt_ii, xGt_ii, xLe_ii, xGe_ii, xAdd_ii, xAdd_ss, xAdd_tt, xAdd_ll, xSub_ii, xMul_ii, xDiv_ii, xMod_ii, xPow_ii, xNeg_i, xInt_i, xInt_b, xLen_t, xLen_l, xLen_s, xLen_d, xTuple_l, xTuple_t, xList_l, xList_t, xIx_t, xIx_l, xIx_s, xIx_di, xIx_ds, at0, at1, at2, at3, at4, at5, at6, at7, xIs_nn, xIs_i, xIs_s, xIs_b, xIs_t, xIs_l, xIs_d, xIsB_n, xIsB_i, xIsB_s, xIsB_b, yInt_i, yInt_b, yInt_n, yInt_s, yInt_t, yInt_l, yBool_i, yBool_b, yBool_n, yBool_s, yBool_t, yBool_l, yStr_i, yStr_b, yStr_n, yStr_s, yStr_t, yStr_l, yTup_i, yTup_b, yTup_n, yTup_s, yTup_t, yTup_l, yLst_i, yLst_n, yLst_s, yLst_t, yLst_l, xIn_it, xIn_il, xIn_sd, xLt_pp, xGt_pp, xLe_pp, xGe_pp, xII, z0, z1, z2, zput0, zput1, zC, zV, zv_d, zv_l, zv_k, zOp, zUn, zlk_d, zlk_l, zlk_k, zlk_b, zls_d, zls_l, zls_k, zfz_d, zfz_l, zfz_k, zfz_b, zfr_l, zfr_k, zfr_d, ztB, zbk, ztT, ztr_b, ztr_i, ztr_n, ztr_t, ztr_l, ztr_s, ztAnd, ztOr, ztNot, zeAnd, zeOr, zeNot, zeIf, zaNil, zaCons, zTup, zLst, zCB, zCall, zCallK, zfdn, zDicK, zpNone, zpSome, zpsk, zSl, zChain, zchk, zSeq, zsNil, zBreak, zCont, zIf, zSet, zs_d, zs_l, zs_k, zs_b, zRet, zr_d, zr_l, zr_k, zr_b, zRetN, zDrop, zFor, ziE, zit_t, zit_l, zit_s, zR1, zr1, zR2, zr2, zgN, zAsg, zgT, zgsC, zgsN, zApp, zap0, zap, zLc, zclr, zclr2, zbck, zkeep_d, zkeep_n, zDP, zdp0, zdp, zky_i, zky_s, xSorted, xNe_bb, zPop, zpopk, zExt, zextk, zextk2, xUpper, xInW, xIxW, xLt_ss, xLe_ss, xGt_ss, xSl_t, xSl_l, xSl_s, zlNil, zlCons, zpin_d, zpin_l, zpin_k, zpin_b, zlkL0, zlkL1, zCallL, zimm_d, zimm_l, zimm_k, zimm_i, zimm_s, zimm_b, zimm_n, zimm_t, zimm_0, zimm_1, zSortSet, xInS_t, xInS_l, List.length_cons, List.length_nil, List.nil_append, List.append_nil, List.cons_append, true_and, and_true, reduceIte, if_true, if_false, decide_eq_true_eq, Bool.not_true, Bool.not_false, Bool.not_eq_true, Bool.false_eq_true, Nat.reduceAdd, Nat.zero_add, Bool.not_eq_false, decide_false, decide_true, Bool.not_eq_eq_eq_not, Bool.true_eq, decide_not, Bool.not_not, decide_eq_false_iff_not, eq_self]
          by_cases c4 : b = 0
          · rw [if_pos c4]
            refine deal_ok (by omega) (by omega) fun m m0 m1 => ?_
            obtain ⟨m, rfl⟩ := Int.eq_ofNat_of_zero_le m0
            have := mid m (by omega)
            simp only [xEq_ii, xEq_ss, xEq_nn, xEq_bb, xEq_ni, xEq_in, xNe_ii, xNe_ss, xLt_ii, xGt_ii, xLe_ii, xGe_ii, xAdd_ii, xAdd_ss, xAdd_tt, xAdd_ll, xSub_ii, xMul_ii, xDiv_ii, xMod_ii, xPow_ii, xNeg_i, xInt_i, xInt_b, xLen_t, xLen_l, xLen_s, xLen_d, xTuple_l, xTuple_t, xList_l, xList_t, xIx_t, xIx_l, xIx_s, xIx_di, xIx_ds, at0, at1, at2, at3, at4, at5, at6, at7, xIs_nn, xIs_i, xIs_s, xIs_b, xIs_t, xIs_l, xIs_d, xIsB_n, xIsB_i, xIsB_s, xIsB_b, yInt_i, yInt_b, yInt_n, yInt_s, yInt_t, yInt_l, yBool_i, yBool_b, yBool_n, yBool_s, yBool_t, yBool_l, yStr_i, yStr_b, yStr_n, yStr_s, yStr_t, yStr_l, yTup_i, yTup_b, yTup_n, yTup_s, yTup_t, yTup_l, yLst_i, yLst_n, yLst_s, yLst_t, yLst_l, xIn_it, xIn_il, xIn_sd, xLt_pp, xGt_pp, xLe_pp, xGe_pp, xII, z0, z1, z2, zput0, zput1, zC, zV, zv_d, zv_l, zv_k, zOp, zUn, zlk_d, zlk_l, zlk_k, zlk_b, zls_d, zls_l, zls_k, zfz_d, zfz_l, zfz_k, zfz_b, zfr_l, zfr_k, zfr_d, ztB, zbk, ztT, ztr_b, ztr_i, ztr_n, ztr_t, ztr_l, ztr_s, ztAnd, ztOr, ztNot, zeAnd, zeOr, zeNot, zeIf, zaNil, zaCons, zTup, zLst, zCB, zCall, zCallK, zfdn, zDicK, zpNone, zpSome, zpsk, zSl, zChain, zchk, zSeq, zsNil, zBreak, zCont, zIf, zSet, zs_d, zs_l, zs_k, zs_b, zRet, zr_d, zr_l, zr_k, zr_b, zRetN, zDrop, zFor, ziE, zit_t, zit_l, zit_s, zR1, zr1, zR2, zr2, zgN, zAsg, zgT, zgsC, zgsN, zApp, zap0, zap, zLc, zclr, zclr2, zbck, zkeep_d, zkeep_n, zDP, zdp0, zdp, zky_i, zky_s, xSorted, xNe_bb, zPop, zpopk, zExt, zextk, zextk2, xUpper, xInW, xIxW, xLt_ss, xLe_ss, xGt_ss, xSl_t, xSl_l, xSl_s, zlNil, zlCons, zpin_d, zpin_l, zpin_k, zpin_b, zlkL0, zlkL1, zCallL, zimm_d, zimm_l, zimm_k, zimm_i, zimm_s, zimm_b, zimm_n, zimm_t, zimm_0, zimm_1, zSortSet, xInS_t, xInS_l, List.length_cons, List.length_nil, List.nil_append, List.append_nil, List.cons_append, true_and, and_true, reduceIte, if_true, if_false, decide_eq_true_eq, Bool.not_true, Bool.not_false, Bool.not_eq_true, Bool.false_eq_true, Nat.reduceAdd, Nat.zero_add, Bool.not_eq_false, decide_false, decide_true, Bool.not_eq_eq_eq_not, Bool.true_eq, decide_not, Bool.not_not, decide_eq_false_iff_not, eq_self] at this ⊢
            exact this
          · rw [if_neg c4]
            have := mid 0 (by omega)
            simp only [xEq_ii, xEq_ss, xEq_nn, xEq_bb, xEq_ni, xEq_in, xNe_ii, xNe_ss, xLt_ii, xGt_ii, xLe_ii, xGe_ii, xAdd_ii, xAdd_ss, xAdd_tt, xAdd_ll, xSub_ii, xMul_ii, xDiv_ii, xMod_ii, xPow_ii, xNeg_i, xInt_i, xInt_b, xLen_t, xLen_l, xLen_s, xLen_d, xTuple_l, xTuple_t, xList_l, xList_t, xIx_t, xIx_l, xIx_s, xIx_di, xIx_ds, at0, at1, at2, at3, at4, at5, at6, at7, xIs_nn, xIs_i, xIs_s, xIs_b, xIs_t, xIs_l, xIs_d, xIsB_n, xIsB_i, xIsB_s, xIsB_b, yInt_i, yInt_b, yInt_n, yInt_s, yInt_t, yInt_l, yBool_i, yBool_b, yBool_n, yBool_s, yBool_t, yBool_l, yStr_i, yStr_b, yStr_n, yStr_s, yStr_t, yStr_l, yTup_i, yTup_b, yTup_n, yTup_s, yTup_t, yTup_l, yLst_i, yLst_n, yLst_s, yLst_t, yLst_l, xIn_it, xIn_il, xIn_sd, xLt_pp, xGt_pp, xLe_pp, xGe_pp, xII, z0, z1, z2, zput0, zput1, zC, zV, zv_d, zv_l, zv_k, zOp, zUn, zlk_d, zlk_l, zlk_k, zlk_b, zls_d, zls_l, zls_k, zfz_d, zfz_l, zfz_k, zfz_b, zfr_l, zfr_k, zfr_d, ztB, zbk, ztT, ztr_b, ztr_i, ztr_n, ztr_t, ztr_l, ztr_s, ztAnd, ztOr, ztNot, zeAnd, zeOr, zeNot, zeIf, zaNil, zaCons, zTup, zLst, zCB, zCall, zCallK, zfdn, zDicK, zpNone, zpSome, zpsk, zSl, zChain, zchk, zSeq, zsNil, zBreak, zCont, zIf, zSet, zs_d, zs_l, zs_k, zs_b, zRet, zr_d, zr_l, zr_k, zr_b, zRetN, zDrop, zFor, ziE, zit_t, zit_l, zit_s, zR1, zr1, zR2, zr2, zgN, zAsg, zgT, zgsC, zgsN, zApp, zap0, zap, zLc, zclr, zclr2, zbck, zkeep_d, zkeep_n, zDP, zdp0, zdp, zky_i, zky_s, xSorted, xNe_bb, zPop, zpopk, zExt, zextk, zextk2, xUpper, xInW, xIxW, xLt_ss, xLe_ss, xGt_ss, xSl_t, xSl_l, xSl_s, zlNil, zlCons, zpin_d, zpin_l, zpin_k, zpin_b, zlkL0, zlkL1, zCallL, zimm_d, zimm_l, zimm_k, zimm_i, zimm_s, zimm_b, zimm_n, zimm_t, zimm_0, zimm_1, zSortSet, xInS_t, xInS_l, List.length_cons, List.length_nil, List.nil_append, List.append_nil, List.cons_append, true_and, and_true, reduceIte, if_true, if_false, decide_eq_true_eq, Bool.not_true, Bool.not_false, Bool.not_eq_true, Bool.false_eq_true, Nat.reduceAdd, Nat.zero_add, Bool.not_eq_false, decide_false, decide_true, Bool.not_eq_eq_eq_not, Bool.true_eq, decide_not, Bool.not_not, decide_eq_false_iff_not, eq_self] at this ⊢
            exact this
/-! series -/
end
end K04
namespace K04
open PySem PySem.Spec PyProof.Rows L2 DL
section
variable {μ : Mu} {w : DL.D} {Δ : DE}
theorem series_lc {R : Sl → S → Prop} {s0 : S} {ls vs : List Str} {y3 : Sl} (e0 : get s0.ρ 4 = .no) (ov : Ls vs) (h : ∀ ps : List Pr, (∀ p ∈ ps, Nm p.1 ∧ Nm p.2) → (ps.Pairwise fun a b => a.1 ≠ b.1) → ps.length ≤ 20 → R (.l (ps.map prD)) ⟨[.d .dlr, .d (.lst (ls.map D.str)), .d (.lst (vs.map D.str)), y3, .no], μ⟩) :
    ∀ (xs : List Str) (acc : List Pr), (∀ x ∈ xs, Nm x) → xs.Nodup → (∀ p ∈ acc, Nm p.1 ∧ Nm p.2) → (acc.Pairwise fun a b => a.1 ≠ b.1) → (∀ p ∈ acc, ∀ x ∈ xs, p.1 ≠ x) → acc.length + xs.length ≤ 20 →
    lcL [4] s0 (gN 4) T_p_law_series_1 E_p_law_series_0 R (xs.map D.str) (acc.map prD) ⟨[.d .dlr, .d (.lst (ls.map D.str)), .d (.lst (vs.map D.str)), y3, .no], μ⟩
  | [], acc, _, _, h1, h2, _, h4 => by
    simp only [List.map_nil, lcL_nil, bck, e0, xEq_ii, xEq_ss, xEq_nn, xEq_bb, xEq_ni, xEq_in, xNe_ii, xNe_ss, xLt_ii, xGt_ii, xLe_ii, xGe_ii, xAdd_ii, xAdd_ss, xAdd_tt, xAdd_ll, xSub_ii, xMul_ii, xDiv_ii, xMod_ii, xPow_ii, xNeg_i, xInt_i, xInt_b, xLen_t, xLen_l, xLen_s, xLen_d, xTuple_l, xTuple_t, xList_l, xList_t, xIx_t, xIx_l, xIx_s, xIx_di, xIx_ds, at0, at1, at2, at3, at4, at5, at6, at7, xIs_nn, xIs_i, xIs_s, xIs_b, xIs_t, xIs_l, xIs_d, xIsB_n, xIsB_i, xIsB_s, xIsB_b, yInt_i, yInt_b, yInt_n, yInt_s, yInt_t, yInt_l, yBool_i, yBool_b, yBool_n, yBool_s, yBool_t, yBool_l, yStr_i, yStr_b, yStr_n, yStr_s, yStr_t, yStr_l, yTup_i, yTup_b, yTup_n, yTup_s, yTup_t, yTup_l, yLst_i, yLst_n, yLst_s, yLst_t, yLst_l, xIn_it, xIn_il, xIn_sd, xLt_pp, xGt_pp, xLe_pp, xGe_pp, xII, z0, z1, z2, zput0, zput1, zC, zV, zv_d, zv_l, zv_k, zOp, zUn, zlk_d, zlk_l, zlk_k, zlk_b, zls_d, zls_l, zls_k, zfz_d, zfz_l, zfz_k, zfz_b, zfr_l, zfr_k, zfr_d, ztB, zbk, ztT, ztr_b, ztr_i, ztr_n, ztr_t, ztr_l, ztr_s, ztAnd, ztOr, ztNot, zeAnd, zeOr, zeNot, zeIf, zaNil, zaCons, zTup, zLst, zCB, zCall, zCallK, zfdn, zDicK, zpNone, zpSome, zpsk, zSl, zChain, zchk, zSeq, zsNil, zBreak, zCont, zIf, zSet, zs_d, zs_l, zs_k, zs_b, zRet, zr_d, zr_l, zr_k, zr_b, zRetN, zDrop, zFor, ziE, zit_t, zit_l, zit_s, zR1, zr1, zR2, zr2, zgN, zAsg, zgT, zgsC, zgsN, zApp, zap0, zap, zLc, zclr, zclr2, zbck, zkeep_d, zkeep_n, zDP, zdp0, zdp, zky_i, zky_s, xSorted, xNe_bb, zPop, zpopk, zExt, zextk, zextk2, xUpper, xInW, xIxW, xLt_ss, xLe_ss, xGt_ss, xSl_t, xSl_l, xSl_s, zlNil, zlCons, zpin_d, zpin_l, zpin_k, zpin_b, zlkL0, zlkL1, zCallL, zimm_d, zimm_l, zimm_k, zimm_i, zimm_s, zimm_b, zimm_n, zimm_t, zimm_0, zimm_1, zSortSet, xInS_t, xInS_l, List.length_cons, List.length_nil, List.nil_append, List.append_nil, List.cons_append, true_and, and_true, reduceIte, if_true, if_false, decide_eq_true_eq, Bool.not_true, Bool.not_false, Bool.not_eq_true, Bool.false_eq_true, Nat.reduceAdd, Nat.zero_add, Bool.not_eq_false, decide_false, decide_true, Bool.not_eq_eq_eq_not, Bool.true_eq, decide_not, Bool.not_not, decide_eq_false_iff_not, eq_self]
    exact h acc h1 h2 (by simpa using h4)
  | x :: xs, acc, hn, hd, h1, h2, h3, h4 => by
    have big : 1000 < sizeLine := by decide
    have p := ov.pos
    have f := ov.few
    simp only [List.length_cons] at h4
    rw [List.nodup_cons] at hd
    simp only [List.map_cons, lcL_cons, T_p_law_series_1_eq, xEq_ii, xEq_ss, xEq_nn, xEq_bb, xEq_ni, xEq_in, xNe_ii, xNe_ss, xLt_ii, xGt_ii, xLe_ii, xGe_ii, xAdd_ii, xAdd_ss, xAdd_tt, xAdd_ll, xSub_ii, xMul_ii, xDiv_ii, xMod_ii, xPow_ii, xNeg_i, xInt_i, xInt_b, xLen_t, xLen_l, xLen_s, xLen_d, xTuple_l, xTuple_t, xList_l, xList_t, xIx_t, xIx_l, xIx_s, xIx_di, xIx_ds, at0, at1, at2, at3, at4, at5, at6, at7, xIs_nn, xIs_i, xIs_s, xIs_b, xIs_t, xIs_l, xIs_d, xIsB_n, xIsB_i, xIsB_s, xIsB_b, yInt_i, yInt_b, yInt_n, yInt_s, yInt_t, yInt_l, yBool_i, yBool_b, yBool_n, yBool_s, yBool_t, yBool_l, yStr_i, yStr_b, yStr_n, yStr_s, yStr_t, yStr_l, yTup_i, yTup_b, yTup_n, yTup_s, yTup_t, yTup_l, yLst_i, yLst_n, yLst_s, yLst_t, yLst_l, xIn_it, xIn_il, xIn_sd, xLt_pp, xGt_pp, xLe_pp, xGe_pp, xII, z0, z1, z2, zput0, zput1, zC, zV, zv_d, zv_l, zv_k, zOp, zUn, zlk_d, zlk_l, zlk_k, zlk_b, zls_d, zls_l, zls_k, zfz_d, zfz_l, zfz_k, zfz_b, zfr_l, zfr_k, zfr_d, ztB, zbk, ztT, ztr_b, ztr_i, ztr_n, ztr_t, ztr_l, ztr_s, ztAnd, ztOr, ztNot, zeAnd, zeOr, zeNot, zeIf, zaNil, zaCons, zTup, zLst, zCB, zCall, zCallK, zfdn, zDicK, zpNone, zpSome, zpsk, zSl, zChain, zchk, zSeq, zsNil, zBreak, zCont, zIf, zSet, zs_d, zs_l, zs_k, zs_b, zRet, zr_d, zr_l, zr_k, zr_b, zRetN, zDrop, zFor, ziE, zit_t, zit_l, zit_s, zR1, zr1, zR2, zr2, zgN, zAsg, zgT, zgsC, zgsN, zApp, zap0, zap, zLc, zclr, zclr2, zbck, zkeep_d, zkeep_n, zDP, zdp0, zdp, zky_i, zky_s, xSorted, xNe_bb, zPop, zpopk, zExt, zextk, zextk2, xUpper, xInW, xIxW, xLt_ss, xLe_ss, xGt_ss, xSl_t, xSl_l, xSl_s, zlNil, zlCons, zpin_d, zpin_l, zpin_k, zpin_b, zlkL0, zlkL1, zCallL, zimm_d, zimm_l, zimm_k, zimm_i, zimm_s, zimm_b, zimm_n, zimm_t, zimm_0, zimm_1, zSortSet, xInS_t, xInS_l, List.length_cons, List.length_nil, List.nil_append, List.append_nil, List.cons_append, true_and, and_true, reduceIte, if_true, if_false, decide_eq_true_eq, Bool.not_true, Bool.not_false, Bool.not_eq_true, Bool.false_eq_true, Nat.reduceAdd, Nat.zero_add, Bool.not_eq_false, decide_false, decide_true, Bool.not_eq_eq_eq_not, Bool.true_eq, decide_not, Bool.not_not, decide_eq_false_iff_not, eq_self]
    refine deal_ok (by decide) (by decide) fun c c0 c1 => ?_
    simp only [xEq_ii, xEq_ss, xEq_nn, xEq_bb, xEq_ni, xEq_in, xNe_ii, xNe_ss, xLt_ii, xGt_ii, xLe_ii, xGe_ii, xAdd_ii, xAdd_ss, xAdd_tt, xAdd_ll, xSub_ii, xMul_ii, xDiv_ii, xMod_ii, xPow_ii, xNeg_i, xInt_i, xInt_b, xLen_t, xLen_l, xLen_s, xLen_d, xTuple_l, xTuple_t, xList_l, xList_t, xIx_t, xIx_l, xIx_s, xIx_di, xIx_ds, at0, at1, at2, at3, at4, at5, at6, at7, xIs_nn, xIs_i, xIs_s, xIs_b, xIs_t, xIs_l, xIs_d, xIsB_n, xIsB_i, xIsB_s, xIsB_b, yInt_i, yInt_b, yInt_n, yInt_s, yInt_t, yInt_l, yBool_i, yBool_b, yBool_n, yBool_s, yBool_t, yBool_l, yStr_i, yStr_b, yStr_n, yStr_s, yStr_t, yStr_l, yTup_i, yTup_b, yTup_n, yTup_s, yTup_t, yTup_l, yLst_i, yLst_n, yLst_s, yLst_t, yLst_l, xIn_it, xIn_il, xIn_sd, xLt_pp, xGt_pp, xLe_pp, xGe_pp, xII, z0, z1, z2, zput0, zput1, zC, zV, zv_d, zv_l, zv_k, zOp, zUn, zlk_d, zlk_l, zlk_k, zlk_b, zls_d, zls_l, zls_k, zfz_d, zfz_l, zfz_k, zfz_b, zfr_l, zfr_k, zfr_d, ztB, zbk, ztT, ztr_b, ztr_i, ztr_n, ztr_t, ztr_l, ztr_s, ztAnd, ztOr, ztNot, zeAnd, zeOr, zeNot, zeIf, zaNil, zaCons, zTup, zLst, zCB, zCall, zCallK, zfdn, zDicK, zpNone, zpSome, zpsk, zSl, zChain, zchk, zSeq, zsNil, zBreak, zCont, zIf, zSet, zs_d, zs_l, zs_k, zs_b, zRet, zr_d, zr_l, zr_k, zr_b, zRetN, zDrop, zFor, ziE, zit_t, zit_l, zit_s, zR1, zr1, zR2, zr2, zgN, zAsg, zgT, zgsC, zgsN, zApp, zap0, zap, zLc, zclr, zclr2, zbck, zkeep_d, zkeep_n, zDP, zdp0, zdp, zky_i, zky_s, xSorted, xNe_bb, zPop, zpopk, zExt, zextk, zextk2, xUpper, xInW, xIxW, xLt_ss, xLe_ss, xGt_ss, xSl_t, xSl_l, xSl_s, zlNil, zlCons, zpin_d, zpin_l, zpin_k, zpin_b, zlkL0, zlkL1, zCallL, zimm_d, zimm_l, zimm_k, zimm_i, zimm_s, zimm_b, zimm_n, zimm_t, zimm_0, zimm_1, zSortSet, xInS_t, xInS_l, List.length_cons, List.length_nil, List.nil_append, List.append_nil, List.cons_append, true_and, and_true, reduceIte, if_true, if_false, decide_eq_true_eq, Bool.not_true, Bool.not_false, Bool.not_eq_true, Bool.false_eq_true, Nat.reduceAdd, Nat.zero_add, Bool.not_eq_false, decide_false, decide_true, Bool.not_eq_eq_eq_not, Bool.true_eq, decide_not, Bool.not_not, decide_eq_false_iff_not, eq_self]
    by_cases hc : 0 < c
    · simp only [hc, xEq_ii, xEq_ss, xEq_nn, xEq_bb, xEq_ni, xEq_in, xNe_ii, xNe_ss, xLt_ii, xGt_ii, xLe_ii, xGe_ii, xAdd_ii, xAdd_ss, xAdd_tt, xAdd_ll, xSub_ii, xMul_ii, xDiv_ii, xMod_ii, xPow_ii, xNeg_i, xInt_i, xInt_b, xLen_t, xLen_l, xLen_s, xLen_d, xTuple_l, xTuple_t, xList_l, xList_t, xIx_t, xIx_l, xIx_s, xIx_di, xIx_ds, at0, at1, at2, at3, at4, at5, at6, at7, xIs_nn, xIs_i, xIs_s, xIs_b, xIs_t, xIs_l, xIs_d, xIsB_n, xIsB_i, xIsB_s, xIsB_b, yInt_i, yInt_b, yInt_n, yInt_s, yInt_t, yInt_l, yBool_i, yBool_b, yBool_n, yBool_s, yBool_t, yBool_l, yStr_i, yStr_b, yStr_n, yStr_s, yStr_t, yStr_l, yTup_i, yTup_b, yTup_n, yTup_s, yTup_t, yTup_l, yLst_i, yLst_n, yLst_s, yLst_t, yLst_l, xIn_it, xIn_il, xIn_sd, xLt_pp, xGt_pp, xLe_pp, xGe_pp, xII, z0, z1, z2, zput0, zput1, zC, zV, zv_d, zv_l, zv_k, zOp, zUn, zlk_d, zlk_l, zlk_k, zlk_b, zls_d, zls_l, zls_k, zfz_d, zfz_l, zfz_k, zfz_b, zfr_l, zfr_k, zfr_d, ztB, zbk, ztT, ztr_b, ztr_i, ztr_n, ztr_t, ztr_l, ztr_s, ztAnd, ztOr, ztNot, zeAnd, zeOr, zeNot, zeIf, zaNil, zaCons, zTup, zLst, zCB, zCall, zCallK, zfdn, zDicK, zpNone, zpSome, zpsk, zSl, zChain, zchk, zSeq, zsNil, zBreak, zCont, zIf, zSet, zs_d, zs_l, zs_k, zs_b, zRet, zr_d, zr_l, zr_k, zr_b, zRetN, zDrop, zFor, ziE, zit_t, zit_l, zit_s, zR1, zr1, zR2, zr2, zgN, zAsg, zgT, zgsC, zgsN, zApp, zap0, zap, zLc, zclr, zclr2, zbck, zkeep_d, zkeep_n, zDP, zdp0, zdp, zky_i, zky_s, xSorted, xNe_bb, zPop, zpopk, zExt, zextk, zextk2, xUpper, xInW, xIxW, xLt_ss, xLe_ss, xGt_ss, xSl_t, xSl_l, xSl_s, zlNil, zlCons, zpin_d, zpin_l, zpin_k, zpin_b, zlkL0, zlkL1, zCallL, zimm_d, zimm_l, zimm_k, zimm_i, zimm_s, zimm_b, zimm_n, zimm_t, zimm_0, zimm_1, zSortSet, xInS_t, xInS_l, List.length_cons, List.length_nil, List.nil_append, List.append_nil, List.cons_append, true_and, and_true, reduceIte, if_true, if_false, decide_eq_true_eq, Bool.not_true, Bool.not_false, Bool.not_eq_true, Bool.false_eq_true, Nat.reduceAdd, Nat.zero_add, Bool.not_eq_false, decide_false, decide_true, Bool.not_eq_eq_eq_not, Bool.true_eq, decide_not, Bool.not_not, decide_eq_false_iff_not, eq_self, E_p_law_series_0_eq]
      refine one_l (by simpa using p) (by rw [List.length_map]; omega) fun d hd' => ?_
      obtain ⟨v, hv, rfl⟩ := List.mem_map.mp hd'
      simp only [xEq_ii, xEq_ss, xEq_nn, xEq_bb, xEq_ni, xEq_in, xNe_ii, xNe_ss, xLt_ii, xGt_ii, xLe_ii, xGe_ii, xAdd_ii, xAdd_ss, xAdd_tt, xAdd_ll, xSub_ii, xMul_ii, xDiv_ii, xMod_ii, xPow_ii, xNeg_i, xInt_i, xInt_b, xLen_t, xLen_l, xLen_s, xLen_d, xTuple_l, xTuple_t, xList_l, xList_t, xIx_t, xIx_l, xIx_s, xIx_di, xIx_ds, at0, at1, at2, at3, at4, at5, at6, at7, xIs_nn, xIs_i, xIs_s, xIs_b, xIs_t, xIs_l, xIs_d, xIsB_n, xIsB_i, xIsB_s, xIsB_b, yInt_i, yInt_b, yInt_n, yInt_s, yInt_t, yInt_l, yBool_i, yBool_b, yBool_n, yBool_s, yBool_t, yBool_l, yStr_i, yStr_b, yStr_n, yStr_s, yStr_t, yStr_l, yTup_i, yTup_b, yTup_n, yTup_s, yTup_t, yTup_l, yLst_i, yLst_n, yLst_s, yLst_t, yLst_l, xIn_it, xIn_il, xIn_sd, xLt_pp, xGt_pp, xLe_pp, xGe_pp, xII, z0, z1, z2, zput0, zput1, zC, zV, zv_d, zv_l, zv_k, zOp, zUn, zlk_d, zlk_l, zlk_k, zlk_b, zls_d, zls_l, zls_k, zfz_d, zfz_l, zfz_k, zfz_b, zfr_l, zfr_k, zfr_d, ztB, zbk, ztT, ztr_b, ztr_i, ztr_n, ztr_t, ztr_l, ztr_s, ztAnd, ztOr, ztNot, zeAnd, zeOr, zeNot, zeIf, zaNil, zaCons, zTup, zLst, zCB, zCall, zCallK, zfdn, zDicK, zpNone, zpSome, zpsk, zSl, zChain, zchk, zSeq, zsNil, zBreak, zCont, zIf, zSet, zs_d, zs_l, zs_k, zs_b, zRet, zr_d, zr_l, zr_k, zr_b, zRetN, zDrop, zFor, ziE, zit_t, zit_l, zit_s, zR1, zr1, zR2, zr2, zgN, zAsg, zgT, zgsC, zgsN, zApp, zap0, zap, zLc, zclr, zclr2, zbck, zkeep_d, zkeep_n, zDP, zdp0, zdp, zky_i, zky_s, xSorted, xNe_bb, zPop, zpopk, zExt, zextk, zextk2, xUpper, xInW, xIxW, xLt_ss, xLe_ss, xGt_ss, xSl_t, xSl_l, xSl_s, zlNil, zlCons, zpin_d, zpin_l, zpin_k, zpin_b, zlkL0, zlkL1, zCallL, zimm_d, zimm_l, zimm_k, zimm_i, zimm_s, zimm_b, zimm_n, zimm_t, zimm_0, zimm_1, zSortSet, xInS_t, xInS_l, List.length_cons, List.length_nil, List.nil_append, List.append_nil, List.cons_append, true_and, and_true, reduceIte, if_true, if_false, decide_eq_true_eq, Bool.not_true, Bool.not_false, Bool.not_eq_true, Bool.false_eq_true, Nat.reduceAdd, Nat.zero_add, Bool.not_eq_false, decide_false, decide_true, Bool.not_eq_eq_eq_not, Bool.true_eq, decide_not, Bool.not_not, decide_eq_false_iff_not, eq_self, List.length_map]
      refine ⟨by decide, by omega, ?_⟩
      have ih := series_lc (s0 := s0) (y3 := y3) e0 ov h xs (acc ++ [(x, v)]) (fun z hz => hn z (List.mem_cons_of_mem _ hz)) hd.2 (fun p hp => ?_) ?_ (fun p hp z hz => ?_) (by simp; omega)
      · rw [List.map_append] at ih
        exact ih
      · rcases List.mem_append.mp hp with hp | hp
        · exact h1 p hp
        · rw [List.mem_singleton.mp hp]; exact ⟨hn x (List.mem_cons_self ..), ov.nm v hv⟩
      · rw [List.pairwise_append]
        refine ⟨h2, List.pairwise_singleton _ _, fun a ha b hb => ?_⟩
        rw [List.mem_singleton.mp hb]
        exact h3 a ha x (List.mem_cons_self ..)
      · rcases List.mem_append.mp hp with hp | hp
        · exact h3 p hp z (List.mem_cons_of_mem _ hz)
        · rw [List.mem_singleton.mp hp]
          exact fun e => hd.1 (by rw [show x = z from e]; exact hz)
    · simp only [hc, xEq_ii, xEq_ss, xEq_nn, xEq_bb, xEq_ni, xEq_in, xNe_ii, xNe_ss, xLt_ii, xGt_ii, xLe_ii, xGe_ii, xAdd_ii, xAdd_ss, xAdd_tt, xAdd_ll, xSub_ii, xMul_ii, xDiv_ii, xMod_ii, xPow_ii, xNeg_i, xInt_i, xInt_b, xLen_t, xLen_l, xLen_s, xLen_d, xTuple_l, xTuple_t, xList_l, xList_t, xIx_t, xIx_l, xIx_s, xIx_di, xIx_ds, at0, at1, at2, at3, at4, at5, at6, at7, xIs_nn, xIs_i, xIs_s, xIs_b, xIs_t, xIs_l, xIs_d, xIsB_n, xIsB_i, xIsB_s, xIsB_b, yInt_i, yInt_b, yInt_n, yInt_s, yInt_t, yInt_l, yBool_i, yBool_b, yBool_n, yBool_s, yBool_t, yBool_l, yStr_i, yStr_b, yStr_n, yStr_s, yStr_t, yStr_l, yTup_i, yTup_b, yTup_n, yTup_s, yTup_t, yTup_l, yLst_i, yLst_n, yLst_s, yLst_t, yLst_l, xIn_it, xIn_il, xIn_sd, xLt_pp, xGt_pp, xLe_pp, xGe_pp, xII, z0, z1, z2, zput0, zput1, zC, zV, zv_d, zv_l, zv_k, zOp, zUn, zlk_d, zlk_l, zlk_k, zlk_b, zls_d, zls_l, zls_k, zfz_d, zfz_l, zfz_k, zfz_b, zfr_l, zfr_k, zfr_d, ztB, zbk, ztT, ztr_b, ztr_i, ztr_n, ztr_t, ztr_l, ztr_s, ztAnd, ztOr, ztNot, zeAnd, zeOr, zeNot, zeIf, zaNil, zaCons, zTup, zLst, zCB, zCall, zCallK, zfdn, zDicK, zpNone, zpSome, zpsk, zSl, zChain, zchk, zSeq, zsNil, zBreak, zCont, zIf, zSet, zs_d, zs_l, zs_k, zs_b, zRet, zr_d, zr_l, zr_k, zr_b, zRetN, zDrop, zFor, ziE, zit_t, zit_l, zit_s, zR1, zr1, zR2, zr2, zgN, zAsg, zgT, zgsC, zgsN, zApp, zap0, zap, zLc, zclr, zclr2, zbck, zkeep_d, zkeep_n, zDP, zdp0, zdp, zky_i, zky_s, xSorted, xNe_bb, zPop, zpopk, zExt, zextk, zextk2, xUpper, xInW, xIxW, xLt_ss, xLe_ss, xGt_ss, xSl_t, xSl_l, xSl_s, zlNil, zlCons, zpin_d, zpin_l, zpin_k, zpin_b, zlkL0, zlkL1, zCallL, zimm_d, zimm_l, zimm_k, zimm_i, zimm_s, zimm_b, zimm_n, zimm_t, zimm_0, zimm_1, zSortSet, xInS_t, xInS_l, List.length_cons, List.length_nil, List.nil_append, List.append_nil, List.cons_append, true_and, and_true, reduceIte, if_true, if_false, decide_eq_true_eq, Bool.not_true, Bool.not_false, Bool.not_eq_true, Bool.false_eq_true, Nat.reduceAdd, Nat.zero_add, Bool.not_eq_false, decide_false, decide_true, Bool.not_eq_eq_eq_not, Bool.true_eq, decide_not, Bool.not_not, decide_eq_false_iff_not, eq_self]
      exact series_lc (s0 := s0) (y3 := y3) e0 ov h xs acc (fun z hz => hn z (List.mem_cons_of_mem _ hz)) hd.2 h1 h2 (fun p hp z hz => h3 p hp z (List.mem_cons_of_mem _ hz)) (by omega)
end
section
variable {μ : Mu} {R : Sl → Mu → Prop} {w : DL.D} {Δ : DE}
theorem pseries_ok {ls vs : List Str} (hn : ∀ x ∈ ls, Nm x) (hd : ls.Nodup) (hl : ls.length ≤ 20) (ov : Ls vs) (h : ∀ ps : List Pr, Ser ps → R (.d (.tup (ps.map prD))) μ) : fn_p_law_series [.dlr, .lst (ls.map D.str), .lst (vs.map D.str)] μ R := by
  show Φ_p_law_series _ ⟨[.d .dlr, .d (.lst (ls.map D.str)), .d (.lst (vs.map D.str)), .no, .no], μ⟩
  simp only [Φ_p_law_series, xEq_ii, xEq_ss, xEq_nn, xEq_bb, xEq_ni, xEq_in, xNe_ii, xNe_ss, xLt_ii, xGt_ii, xLe_ii, xGe_ii, xAdd_ii, xAdd_ss, xAdd_tt, xAdd_ll, xSub_ii, xMul_ii, xDiv_ii, xMod_ii, xPow_ii, xNeg_i, xInt_i, xInt_b, xLen_t, xLen_l, xLen_s, xLen_d, xTuple_l, xTuple_t, xList_l, xList_t, xIx_t, xIx_l, xIx_s, xIx_di, xIx_ds, at0, at1, at2, at3, at4, at5, at6, at7, xIs_nn, xIs_i, xIs_s, xIs_b, xIs_t, xIs_l, xIs_d, xIsB_n, xIsB_i, xIsB_s, xIsB_b, yInt_i, yInt_b, yInt_n, yInt_s, yInt_t, yInt_l, yBool_i, yBool_b, yBool_n, yBool_s, yBool_t, yBool_l, yStr_i, yStr_b, yStr_n, yStr_s, yStr_t, yStr_l, yTup_i, yTup_b, yTup_n, yTup_s, yTup_t, yTup_l, yLst_i, yLst_n, yLst_s, yLst_t, yLst_l, xIn_it, xIn_il, xIn_sd, xLt_pp, xGt_pp, xLe_pp, xGe_pp, xII, z0, z1, z2, zput0, zput1, zC, zV, zv_d, zv_l, zv_k, zOp, zUn, zlk_d, zlk_l, zlk_k, zlk_b, zls_d, zls_l, zls_k, zfz_d, zfz_l, zfz_k, zfz_b, zfr_l, zfr_k, zfr_d, ztB, zbk, ztT, ztr_b, ztr_i, ztr_n, ztr_t, ztr_l, ztr_s, ztAnd, ztOr, ztNot, zeAnd, zeOr, zeNot, zeIf, zaNil, zaCons, zTup, zLst, zCB, zCall, zCallK, zfdn, zDicK, zpNone, zpSome, zpsk, zSl, zChain, zchk, zSeq, zsNil, zBreak, zCont, zIf, zSet, zs_d, zs_l, zs_k, zs_b, zRet, zr_d, zr_l, zr_k, zr_b, zRetN, zDrop, zFor, ziE, zit_t, zit_l, zit_s, zR1, zr1, zR2, zr2, zgN, zAsg, zgT, zgsC, zgsN, zApp, zap0, zap, zLc, zclr, zclr2, zbck, zkeep_d, zkeep_n, zDP, zdp0, zdp, zky_i, zky_s, xSorted, xNe_bb, zPop, zpopk, zExt, zextk, zextk2, xUpper, xInW, xIxW, xLt_ss, xLe_ss, xGt_ss, xSl_t, xSl_l, xSl_s, zlNil, zlCons, zpin_d, zpin_l, zpin_k, zpin_b, zlkL0, zlkL1, zCallL, zimm_d, zimm_l, zimm_k, zimm_i, zimm_s, zimm_b, zimm_n, zimm_t, zimm_0, zimm_1, zSortSet, xInS_t, xInS_l, List.length_cons, List.length_nil, List.nil_append, List.append_nil, List.cons_append, true_and, and_true, reduceIte, if_true, if_false, decide_eq_true_eq, Bool.not_true, Bool.not_false, Bool.not_eq_true, Bool.false_eq_true, Nat.reduceAdd, Nat.zero_add, Bool.not_eq_false, decide_false, decide_true, Bool.not_eq_eq_eq_not, Bool.true_eq, decide_not, Bool.not_not, decide_eq_false_iff_not, eq_self]
  refine series_lc ?hh ov (fun ps h1 h2 h3 => ?_) ls [] hn hd (fun _ z => nomatch z) List.Pairwise.nil (fun _ z => nomatch z) (by simpa using hl)
  case hh => rfl
  simp only [xEq_ii, xEq_ss, xEq_nn, xEq_bb, xEq_ni, xEq_in, xNe_ii, xNe_ss, xLt_ii, xGt_ii, xLe_ii, xGe_ii, xAdd_ii, xAdd_ss, xAdd_tt, xAdd_ll, xSub_ii, xMul_ii, xDiv_ii, xMod_ii, xPow_ii, xNeg_i, xInt_i, xInt_b, xLen_t, xLen_l, xLen_s, xLen_d, xTuple_l, xTuple_t, xList_l, xList_t, xIx_t, xIx_l, xIx_s, xIx_di, xIx_ds, at0, at1, at2, at3, at4, at5, at6, at7, xIs_nn, xIs_i, xIs_s, xIs_b, xIs_t, xIs_l, xIs_d, xIsB_n, xIsB_i, xIsB_s, xIsB_b, yInt_i, yInt_b, yInt_n, yInt_s, yInt_t, yInt_l, yBool_i, yBool_b, yBool_n, yBool_s, yBool_t, yBool_l, yStr_i, yStr_b, yStr_n, yStr_s, yStr_t, yStr_l, yTup_i, yTup_b, yTup_n, yTup_s, yTup_t, yTup_l, yLst_i, yLst_n, yLst_s, yLst_t, yLst_l, xIn_it, xIn_il, xIn_sd, xLt_pp, xGt_pp, xLe_pp, xGe_pp, xII, z0, z1, z2, zput0, zput1, zC, zV, zv_d, zv_l, zv_k, zOp, zUn, zlk_d, zlk_l, zlk_k, zlk_b, zls_d, zls_l, zls_k, zfz_d, zfz_l, zfz_k, zfz_b, zfr_l, zfr_k, zfr_d, ztB, zbk, ztT, ztr_b, ztr_i, ztr_n, ztr_t, ztr_l, ztr_s, ztAnd, ztOr, ztNot, zeAnd, zeOr, zeNot, zeIf, zaNil, zaCons, zTup, zLst, zCB, zCall, zCallK, zfdn, zDicK, zpNone, zpSome, zpsk, zSl, zChain, zchk, zSeq, zsNil, zBreak, zCont, zIf, zSet, zs_d, zs_l, zs_k, zs_b, zRet, zr_d, zr_l, zr_k, zr_b, zRetN, zDrop, zFor, ziE, zit_t, zit_l, zit_s, zR1, zr1, zR2, zr2, zgN, zAsg, zgT, zgsC, zgsN, zApp, zap0, zap, zLc, zclr, zclr2, zbck, zkeep_d, zkeep_n, zDP, zdp0, zdp, zky_i, zky_s, xSorted, xNe_bb, zPop, zpopk, zExt, zextk, zextk2, xUpper, xInW, xIxW, xLt_ss, xLe_ss, xGt_ss, xSl_t, xSl_l, xSl_s, zlNil, zlCons, zpin_d, zpin_l, zpin_k, zpin_b, zlkL0, zlkL1, zCallL, zimm_d, zimm_l, zimm_k, zimm_i, zimm_s, zimm_b, zimm_n, zimm_t, zimm_0, zimm_1, zSortSet, xInS_t, xInS_l, List.length_cons, List.length_nil, List.nil_append, List.append_nil, List.cons_append, true_and, and_true, reduceIte, if_true, if_false, decide_eq_true_eq, Bool.not_true, Bool.not_false, Bool.not_eq_true, Bool.false_eq_true, Nat.reduceAdd, Nat.zero_add, Bool.not_eq_false, decide_false, decide_true, Bool.not_eq_eq_eq_not, Bool.true_eq, decide_not, Bool.not_not, decide_eq_false_iff_not, eq_self]
  refine ⟨csort_sp _, ?_⟩
  rw [show ps.map prD = ps.map sp from rfl, sort_sp]
  exact h (sortP ps) ⟨fun p hp => h1 p (sortP_mem.mp hp), sortP_asc h2, by rw [sortP_len]; omega⟩
theorem pool_ok {m : Nat} (h1 : 1 ≤ m) (hm : m ≤ 10) {R : Sl → Mu → Prop} (h : ∀ xs, poolB 60 m xs → R (.l (xs.map D.str)) (fun _ => none)) : fn_p_law_pool [.dlr, .int (m : Nat)] (fun _ => none) R := by
  show Φ_p_law_pool _ ⟨[.d .dlr, .d (.int (m : Nat)), .no, .no, .no], fun _ => none⟩
  simp only [Φ_p_law_pool, xEq_ii, xEq_ss, xEq_nn, xEq_bb, xEq_ni, xEq_in, xNe_ii, xNe_ss, xLt_ii, xGt_ii, xLe_ii, xGe_ii, xAdd_ii, xAdd_ss, xAdd_tt, xAdd_ll, xSub_ii, xMul_ii, xDiv_ii, xMod_ii, xPow_ii, xNeg_i, xInt_i, xInt_b, xLen_t, xLen_l, xLen_s, xLen_d, xTuple_l, xTuple_t, xList_l, xList_t, xIx_t, xIx_l, xIx_s, xIx_di, xIx_ds, at0, at1, at2, at3, at4, at5, at6, at7, xIs_nn, xIs_i, xIs_s, xIs_b, xIs_t, xIs_l, xIs_d, xIsB_n, xIsB_i, xIsB_s, xIsB_b, yInt_i, yInt_b, yInt_n, yInt_s, yInt_t, yInt_l, yBool_i, yBool_b, yBool_n, yBool_s, yBool_t, yBool_l, yStr_i, yStr_b, yStr_n, yStr_s, yStr_t, yStr_l, yTup_i, yTup_b, yTup_n, yTup_s, yTup_t, yTup_l, yLst_i, yLst_n, yLst_s, yLst_t, yLst_l, xIn_it, xIn_il, xIn_sd, xLt_pp, xGt_pp, xLe_pp, xGe_pp, xII, z0, z1, z2, zput0, zput1, zC, zV, zv_d, zv_l, zv_k, zOp, zUn, zlk_d, zlk_l, zlk_k, zlk_b, zls_d, zls_l, zls_k, zfz_d, zfz_l, zfz_k, zfz_b, zfr_l, zfr_k, zfr_d, ztB, zbk, ztT, ztr_b, ztr_i, ztr_n, ztr_t, ztr_l, ztr_s, ztAnd, ztOr, ztNot, zeAnd, zeOr, zeNot, zeIf, zaNil, zaCons, zTup, zLst, zCB, zCall, zCallK, zfdn, zDicK, zpNone, zpSome, zpsk, zSl, zChain, zchk, zSeq, zsNil, zBreak, zCont, zIf, zSet, zs_d, zs_l, zs_k, zs_b, zRet, zr_d, zr_l, zr_k, zr_b, zRetN, zDrop, zFor, ziE, zit_t, zit_l, zit_s, zR1, zr1, zR2, zr2, zgN, zAsg, zgT, zgsC, zgsN, zApp, zap0, zap, zLc, zclr, zclr2, zbck, zkeep_d, zkeep_n, zDP, zdp0, zdp, zky_i, zky_s, xSorted, xNe_bb, zPop, zpopk, zExt, zextk, zextk2, xUpper, xInW, xIxW, xLt_ss, xLe_ss, xGt_ss, xSl_t, xSl_l, xSl_s, zlNil, zlCons, zpin_d, zpin_l, zpin_k, zpin_b, zlkL0, zlkL1, zCallL, zimm_d, zimm_l, zimm_k, zimm_i, zimm_s, zimm_b, zimm_n, zimm_t, zimm_0, zimm_1, zSortSet, xInS_t, xInS_l, List.length_cons, List.length_nil, List.nil_append, List.append_nil, List.cons_append, true_and, and_true, reduceIte, if_true, if_false, decide_eq_true_eq, Bool.not_true, Bool.not_false, Bool.not_eq_true, Bool.false_eq_true, Nat.reduceAdd, Nat.zero_add, Bool.not_eq_false, decide_false, decide_true, Bool.not_eq_eq_eq_not, Bool.true_eq, decide_not, Bool.not_not, decide_eq_false_iff_not, eq_self]
  refine pname_ok fun x hx => ?_
  simp only [xEq_ii, xEq_ss, xEq_nn, xEq_bb, xEq_ni, xEq_in, xNe_ii, xNe_ss, xLt_ii, xGt_ii, xLe_ii, xGe_ii, xAdd_ii, xAdd_ss, xAdd_tt, xAdd_ll, xSub_ii, xMul_ii, xDiv_ii, xMod_ii, xPow_ii, xNeg_i, xInt_i, xInt_b, xLen_t, xLen_l, xLen_s, xLen_d, xTuple_l, xTuple_t, xList_l, xList_t, xIx_t, xIx_l, xIx_s, xIx_di, xIx_ds, at0, at1, at2, at3, at4, at5, at6, at7, xIs_nn, xIs_i, xIs_s, xIs_b, xIs_t, xIs_l, xIs_d, xIsB_n, xIsB_i, xIsB_s, xIsB_b, yInt_i, yInt_b, yInt_n, yInt_s, yInt_t, yInt_l, yBool_i, yBool_b, yBool_n, yBool_s, yBool_t, yBool_l, yStr_i, yStr_b, yStr_n, yStr_s, yStr_t, yStr_l, yTup_i, yTup_b, yTup_n, yTup_s, yTup_t, yTup_l, yLst_i, yLst_n, yLst_s, yLst_t, yLst_l, xIn_it, xIn_il, xIn_sd, xLt_pp, xGt_pp, xLe_pp, xGe_pp, xII, z0, z1, z2, zput0, zput1, zC, zV, zv_d, zv_l, zv_k, zOp, zUn, zlk_d, zlk_l, zlk_k, zlk_b, zls_d, zls_l, zls_k, zfz_d, zfz_l, zfz_k, zfz_b, zfr_l, zfr_k, zfr_d, ztB, zbk, ztT, ztr_b, ztr_i, ztr_n, ztr_t, ztr_l, ztr_s, ztAnd, ztOr, ztNot, zeAnd, zeOr, zeNot, zeIf, zaNil, zaCons, zTup, zLst, zCB, zCall, zCallK, zfdn, zDicK, zpNone, zpSome, zpsk, zSl, zChain, zchk, zSeq, zsNil, zBreak, zCont, zIf, zSet, zs_d, zs_l, zs_k, zs_b, zRet, zr_d, zr_l, zr_k, zr_b, zRetN, zDrop, zFor, ziE, zit_t, zit_l, zit_s, zR1, zr1, zR2, zr2, zgN, zAsg, zgT, zgsC, zgsN, zApp, zap0, zap, zLc, zclr, zclr2, zbck, zkeep_d, zkeep_n, zDP, zdp0, zdp, zky_i, zky_s, xSorted, xNe_bb, zPop, zpopk, zExt, zextk, zextk2, xUpper, xInW, xIxW, xLt_ss, xLe_ss, xGt_ss, xSl_t, xSl_l, xSl_s, zlNil, zlCons, zpin_d, zpin_l, zpin_k, zpin_b, zlkL0, zlkL1, zCallL, zimm_d, zimm_l, zimm_k, zimm_i, zimm_s, zimm_b, zimm_n, zimm_t, zimm_0, zimm_1, zSortSet, xInS_t, xInS_l, List.length_cons, List.length_nil, List.nil_append, List.append_nil, List.cons_append, true_and, and_true, reduceIte, if_true, if_false, decide_eq_true_eq, Bool.not_true, Bool.not_false, Bool.not_eq_true, Bool.false_eq_true, Nat.reduceAdd, Nat.zero_add, Bool.not_eq_false, decide_false, decide_true, Bool.not_eq_eq_eq_not, Bool.true_eq, decide_not, Bool.not_not, decide_eq_false_iff_not, eq_self]
  refine ⟨by decide, cMul_small (by omega) (by omega), ⟨by omega, by omega⟩, ?_⟩
  have e : (2 * (m : Int)).toNat = 2 * m := by omega
  rw [e]
  refine pool_loop (m := m) (by omega) _ [x] 39 _ _ (by omega) (by unfold rng; simp; omega) ⟨by simp, by simpa using h1, by simp, fun z hz => by rw [List.mem_singleton.mp hz]; exact hx⟩ fun xs y3 y4 hp => ?_
  simp only [xEq_ii, xEq_ss, xEq_nn, xEq_bb, xEq_ni, xEq_in, xNe_ii, xNe_ss, xLt_ii, xGt_ii, xLe_ii, xGe_ii, xAdd_ii, xAdd_ss, xAdd_tt, xAdd_ll, xSub_ii, xMul_ii, xDiv_ii, xMod_ii, xPow_ii, xNeg_i, xInt_i, xInt_b, xLen_t, xLen_l, xLen_s, xLen_d, xTuple_l, xTuple_t, xList_l, xList_t, xIx_t, xIx_l, xIx_s, xIx_di, xIx_ds, at0, at1, at2, at3, at4, at5, at6, at7, xIs_nn, xIs_i, xIs_s, xIs_b, xIs_t, xIs_l, xIs_d, xIsB_n, xIsB_i, xIsB_s, xIsB_b, yInt_i, yInt_b, yInt_n, yInt_s, yInt_t, yInt_l, yBool_i, yBool_b, yBool_n, yBool_s, yBool_t, yBool_l, yStr_i, yStr_b, yStr_n, yStr_s, yStr_t, yStr_l, yTup_i, yTup_b, yTup_n, yTup_s, yTup_t, yTup_l, yLst_i, yLst_n, yLst_s, yLst_t, yLst_l, xIn_it, xIn_il, xIn_sd, xLt_pp, xGt_pp, xLe_pp, xGe_pp, xII, z0, z1, z2, zput0, zput1, zC, zV, zv_d, zv_l, zv_k, zOp, zUn, zlk_d, zlk_l, zlk_k, zlk_b, zls_d, zls_l, zls_k, zfz_d, zfz_l, zfz_k, zfz_b, zfr_l, zfr_k, zfr_d, ztB, zbk, ztT, ztr_b, ztr_i, ztr_n, ztr_t, ztr_l, ztr_s, ztAnd, ztOr, ztNot, zeAnd, zeOr, zeNot, zeIf, zaNil, zaCons, zTup, zLst, zCB, zCall, zCallK, zfdn, zDicK, zpNone, zpSome, zpsk, zSl, zChain, zchk, zSeq, zsNil, zBreak, zCont, zIf, zSet, zs_d, zs_l, zs_k, zs_b, zRet, zr_d, zr_l, zr_k, zr_b, zRetN, zDrop, zFor, ziE, zit_t, zit_l, zit_s, zR1, zr1, zR2, zr2, zgN, zAsg, zgT, zgsC, zgsN, zApp, zap0, zap, zLc, zclr, zclr2, zbck, zkeep_d, zkeep_n, zDP, zdp0, zdp, zky_i, zky_s, xSorted, xNe_bb, zPop, zpopk, zExt, zextk, zextk2, xUpper, xInW, xIxW, xLt_ss, xLe_ss, xGt_ss, xSl_t, xSl_l, xSl_s, zlNil, zlCons, zpin_d, zpin_l, zpin_k, zpin_b, zlkL0, zlkL1, zCallL, zimm_d, zimm_l, zimm_k, zimm_i, zimm_s, zimm_b, zimm_n, zimm_t, zimm_0, zimm_1, zSortSet, xInS_t, xInS_l, List.length_cons, List.length_nil, List.nil_append, List.append_nil, List.cons_append, true_and, and_true, reduceIte, if_true, if_false, decide_eq_true_eq, Bool.not_true, Bool.not_false, Bool.not_eq_true, Bool.false_eq_true, Nat.reduceAdd, Nat.zero_add, Bool.not_eq_false, decide_false, decide_true, Bool.not_eq_eq_eq_not, Bool.true_eq, decide_not, Bool.not_not, decide_eq_false_iff_not, eq_self]
  exact h xs hp
end
/-! the law -/
theorem nm_of {x : Str} (h1 : (match x.cps.toList with | c :: _ => decide (c ∈ smallS.cps.toList) | [] => false) = true) (h2 : (x.cps.toList.all fun c => decide (c ∈ signS.cps.toList)) = true) (h3 : x.cps.toList.length < 500) : Nm x := by
  refine ⟨?_, fun c hc => by simpa using List.all_eq_true.mp h2 c hc, h3⟩
  cases e : x.cps.toList with
  | nil => rw [e] at h1; cases h1
  | cons c r => rw [e] at h1; exact ⟨c, r, rfl, by simpa using h1⟩
def words : List Str := ["any", "not", "has", "on"]
theorem nm_words : ∀ x ∈ words, Nm x := by
  intro x hx
  simp only [words, List.mem_cons, List.not_mem_nil, or_false] at hx
  rcases hx with rfl | rfl | rfl | rfl <;> exact nm_of (by decide +kernel) (by decide +kernel) (by decide +kernel)
def serD (ps : List Pr) : DL.D := .tup (ps.map prD)
theorem imm_strs : ∀ vs : List Str, D.imms (vs.map D.str) = true
  | [] => rfl
  | v :: vs => by
    show (true && D.imms (vs.map D.str)) = true
    rw [imm_strs vs]
    rfl
theorem Q.imm : ∀ q : Q, q.D.imm = true
  | .any => rfl
  | .has x => rfl
  | .is x vs => by
    show (true && (true && (D.imms (vs.map D.str) && true))) = true
    rw [imm_strs vs]
    rfl
  | .no q => by
    show (true && (q.D.imm && true)) = true
    rw [q.imm]
    rfl
  | .bo a p q => by
    show (true && (p.D.imm && (q.D.imm && true))) = true
    rw [p.imm, q.imm]
    rfl
section
variable {Δ : DE} {sc : DL.D}
theorem words_loop {y4 y5 y6 y7 y8 y9 y10 y11 : Sl} (h : ∀ xs y3, Ls xs → Δ.nx ⟨[.d sc, .d .dlr, .l (xs.map D.str), y3, y4, y5, y6, y7, y8, y9, y10, y11], fun _ => none⟩) : ∀ (ws xs : List Str) (y3 : Sl), (∀ x ∈ ws, Nm x) → xs ≠ [] → (∀ x ∈ xs, Nm x) → xs.Nodup → xs.length + ws.length ≤ 20 →
    forL (gN 3) B_law_0 Δ (ws.map D.str) ⟨[.d sc, .d .dlr, .l (xs.map D.str), y3, y4, y5, y6, y7, y8, y9, y10, y11], fun _ => none⟩
  | [], xs, y3, _, h1, h2, h3, h4 => h xs y3 ⟨h1, h2, h3, by simpa using h4⟩
  | a :: ws, xs, y3, hw, h1, h2, h3, h4 => by
    have big : 1000 < sizeLine := by decide
    simp only [List.length_cons] at h4
    have stay := words_loop h ws xs (.d (.str a)) (fun x hx => hw x (List.mem_cons_of_mem _ hx)) h1 h2 h3 (by omega)
    simp only [List.map_cons, forL_cons, B_law_0_eq, xEq_ii, xEq_ss, xEq_nn, xEq_bb, xEq_ni, xEq_in, xNe_ii, xNe_ss, xLt_ii, xGt_ii, xLe_ii, xGe_ii, xAdd_ii, xAdd_ss, xAdd_tt, xAdd_ll, xSub_ii, xMul_ii, xDiv_ii, xMod_ii, xPow_ii, xNeg_i, xInt_i, xInt_b, xLen_t, xLen_l, xLen_s, xLen_d, xTuple_l, xTuple_t, xList_l, xList_t, xIx_t, xIx_l, xIx_s, xIx_di, xIx_ds, at0, at1, at2, at3, at4, at5, at6, at7, xIs_nn, xIs_i, xIs_s, xIs_b, xIs_t, xIs_l, xIs_d, xIsB_n, xIsB_i, xIsB_s, xIsB_b, yInt_i, yInt_b, yInt_n, yInt_s, yInt_t, yInt_l, yBool_i, yBool_b, yBool_n, yBool_s, yBool_t, yBool_l, yStr_i, yStr_b, yStr_n, yStr_s, yStr_t, yStr_l, yTup_i, yTup_b, yTup_n, yTup_s, yTup_t, yTup_l, yLst_i, yLst_n, yLst_s, yLst_t, yLst_l, xIn_it, xIn_il, xIn_sd, xLt_pp, xGt_pp, xLe_pp, xGe_pp, xII, z0, z1, z2, zput0, zput1, zC, zV, zv_d, zv_l, zv_k, zOp, zUn, zlk_d, zlk_l, zlk_k, zlk_b, zls_d, zls_l, zls_k, zfz_d, zfz_l, zfz_k, zfz_b, zfr_l, zfr_k, zfr_d, ztB, zbk, ztT, ztr_b, ztr_i, ztr_n, ztr_t, ztr_l, ztr_s, ztAnd, ztOr, ztNot, zeAnd, zeOr, zeNot, zeIf, zaNil, zaCons, zTup, zLst, zCB, zCall, zCallK, zfdn, zDicK, zpNone, zpSome, zpsk, zSl, zChain, zchk, zSeq, zsNil, zBreak, zCont, zIf, zSet, zs_d, zs_l, zs_k, zs_b, zRet, zr_d, zr_l, zr_k, zr_b, zRetN, zDrop, zFor, ziE, zit_t, zit_l, zit_s, zR1, zr1, zR2, zr2, zgN, zAsg, zgT, zgsC, zgsN, zApp, zap0, zap, zLc, zclr, zclr2, zbck, zkeep_d, zkeep_n, zDP, zdp0, zdp, zky_i, zky_s, xSorted, xNe_bb, zPop, zpopk, zExt, zextk, zextk2, xUpper, xInW, xIxW, xLt_ss, xLe_ss, xGt_ss, xSl_t, xSl_l, xSl_s, zlNil, zlCons, zpin_d, zpin_l, zpin_k, zpin_b, zlkL0, zlkL1, zCallL, zimm_d, zimm_l, zimm_k, zimm_i, zimm_s, zimm_b, zimm_n, zimm_t, zimm_0, zimm_1, zSortSet, xInS_t, xInS_l, List.length_cons, List.length_nil, List.nil_append, List.append_nil, List.cons_append, true_and, and_true, reduceIte, if_true, if_false, decide_eq_true_eq, Bool.not_true, Bool.not_false, Bool.not_eq_true, Bool.false_eq_true, Nat.reduceAdd, Nat.zero_add, Bool.not_eq_false, decide_false, decide_true, Bool.not_eq_eq_eq_not, Bool.true_eq, decide_not, Bool.not_not, decide_eq_false_iff_not, eq_self, xInS_l, List.length_map]
    by_cases c : a ∈ xs
    · simp only [c, xEq_ii, xEq_ss, xEq_nn, xEq_bb, xEq_ni, xEq_in, xNe_ii, xNe_ss, xLt_ii, xGt_ii, xLe_ii, xGe_ii, xAdd_ii, xAdd_ss, xAdd_tt, xAdd_ll, xSub_ii, xMul_ii, xDiv_ii, xMod_ii, xPow_ii, xNeg_i, xInt_i, xInt_b, xLen_t, xLen_l, xLen_s, xLen_d, xTuple_l, xTuple_t, xList_l, xList_t, xIx_t, xIx_l, xIx_s, xIx_di, xIx_ds, at0, at1, at2, at3, at4, at5, at6, at7, xIs_nn, xIs_i, xIs_s, xIs_b, xIs_t, xIs_l, xIs_d, xIsB_n, xIsB_i, xIsB_s, xIsB_b, yInt_i, yInt_b, yInt_n, yInt_s, yInt_t, yInt_l, yBool_i, yBool_b, yBool_n, yBool_s, yBool_t, yBool_l, yStr_i, yStr_b, yStr_n, yStr_s, yStr_t, yStr_l, yTup_i, yTup_b, yTup_n, yTup_s, yTup_t, yTup_l, yLst_i, yLst_n, yLst_s, yLst_t, yLst_l, xIn_it, xIn_il, xIn_sd, xLt_pp, xGt_pp, xLe_pp, xGe_pp, xII, z0, z1, z2, zput0, zput1, zC, zV, zv_d, zv_l, zv_k, zOp, zUn, zlk_d, zlk_l, zlk_k, zlk_b, zls_d, zls_l, zls_k, zfz_d, zfz_l, zfz_k, zfz_b, zfr_l, zfr_k, zfr_d, ztB, zbk, ztT, ztr_b, ztr_i, ztr_n, ztr_t, ztr_l, ztr_s, ztAnd, ztOr, ztNot, zeAnd, zeOr, zeNot, zeIf, zaNil, zaCons, zTup, zLst, zCB, zCall, zCallK, zfdn, zDicK, zpNone, zpSome, zpsk, zSl, zChain, zchk, zSeq, zsNil, zBreak, zCont, zIf, zSet, zs_d, zs_l, zs_k, zs_b, zRet, zr_d, zr_l, zr_k, zr_b, zRetN, zDrop, zFor, ziE, zit_t, zit_l, zit_s, zR1, zr1, zR2, zr2, zgN, zAsg, zgT, zgsC, zgsN, zApp, zap0, zap, zLc, zclr, zclr2, zbck, zkeep_d, zkeep_n, zDP, zdp0, zdp, zky_i, zky_s, xSorted, xNe_bb, zPop, zpopk, zExt, zextk, zextk2, xUpper, xInW, xIxW, xLt_ss, xLe_ss, xGt_ss, xSl_t, xSl_l, xSl_s, zlNil, zlCons, zpin_d, zpin_l, zpin_k, zpin_b, zlkL0, zlkL1, zCallL, zimm_d, zimm_l, zimm_k, zimm_i, zimm_s, zimm_b, zimm_n, zimm_t, zimm_0, zimm_1, zSortSet, xInS_t, xInS_l, List.length_cons, List.length_nil, List.nil_append, List.append_nil, List.cons_append, true_and, and_true, reduceIte, if_true, if_false, decide_eq_true_eq, Bool.not_true, Bool.not_false, Bool.not_eq_true, Bool.false_eq_true, Nat.reduceAdd, Nat.zero_add, Bool.not_eq_false, decide_false, decide_true, Bool.not_eq_eq_eq_not, Bool.true_eq, decide_not, Bool.not_not, decide_eq_false_iff_not, eq_self, not_true_eq_false]
      exact stay
    · simp only [c, xEq_ii, xEq_ss, xEq_nn, xEq_bb, xEq_ni, xEq_in, xNe_ii, xNe_ss, xLt_ii, xGt_ii, xLe_ii, xGe_ii, xAdd_ii, xAdd_ss, xAdd_tt, xAdd_ll, xSub_ii, xMul_ii, xDiv_ii, xMod_ii, xPow_ii, xNeg_i, xInt_i, xInt_b, xLen_t, xLen_l, xLen_s, xLen_d, xTuple_l, xTuple_t, xList_l, xList_t, xIx_t, xIx_l, xIx_s, xIx_di, xIx_ds, at0, at1, at2, at3, at4, at5, at6, at7, xIs_nn, xIs_i, xIs_s, xIs_b, xIs_t, xIs_l, xIs_d, xIsB_n, xIsB_i, xIsB_s, xIsB_b, yInt_i, yInt_b, yInt_n, yInt_s, yInt_t, yInt_l, yBool_i, yBool_b, yBool_n, yBool_s, yBool_t, yBool_l, yStr_i, yStr_b, yStr_n, yStr_s, yStr_t, yStr_l, yTup_i, yTup_b, yTup_n, yTup_s, yTup_t, yTup_l, yLst_i, yLst_n, yLst_s, yLst_t, yLst_l, xIn_it, xIn_il, xIn_sd, xLt_pp, xGt_pp, xLe_pp, xGe_pp, xII, z0, z1, z2, zput0, zput1, zC, zV, zv_d, zv_l, zv_k, zOp, zUn, zlk_d, zlk_l, zlk_k, zlk_b, zls_d, zls_l, zls_k, zfz_d, zfz_l, zfz_k, zfz_b, zfr_l, zfr_k, zfr_d, ztB, zbk, ztT, ztr_b, ztr_i, ztr_n, ztr_t, ztr_l, ztr_s, ztAnd, ztOr, ztNot, zeAnd, zeOr, zeNot, zeIf, zaNil, zaCons, zTup, zLst, zCB, zCall, zCallK, zfdn, zDicK, zpNone, zpSome, zpsk, zSl, zChain, zchk, zSeq, zsNil, zBreak, zCont, zIf, zSet, zs_d, zs_l, zs_k, zs_b, zRet, zr_d, zr_l, zr_k, zr_b, zRetN, zDrop, zFor, ziE, zit_t, zit_l, zit_s, zR1, zr1, zR2, zr2, zgN, zAsg, zgT, zgsC, zgsN, zApp, zap0, zap, zLc, zclr, zclr2, zbck, zkeep_d, zkeep_n, zDP, zdp0, zdp, zky_i, zky_s, xSorted, xNe_bb, zPop, zpopk, zExt, zextk, zextk2, xUpper, xInW, xIxW, xLt_ss, xLe_ss, xGt_ss, xSl_t, xSl_l, xSl_s, zlNil, zlCons, zpin_d, zpin_l, zpin_k, zpin_b, zlkL0, zlkL1, zCallL, zimm_d, zimm_l, zimm_k, zimm_i, zimm_s, zimm_b, zimm_n, zimm_t, zimm_0, zimm_1, zSortSet, xInS_t, xInS_l, List.length_cons, List.length_nil, List.nil_append, List.append_nil, List.cons_append, true_and, and_true, reduceIte, if_true, if_false, decide_eq_true_eq, Bool.not_true, Bool.not_false, Bool.not_eq_true, Bool.false_eq_true, Nat.reduceAdd, Nat.zero_add, Bool.not_eq_false, decide_false, decide_true, Bool.not_eq_eq_eq_not, Bool.true_eq, decide_not, Bool.not_not, decide_eq_false_iff_not, eq_self, not_false_eq_true]
      refine deal_ok (by decide) (by decide) fun k k0 k1 => ?_
      simp only [xEq_ii, xEq_ss, xEq_nn, xEq_bb, xEq_ni, xEq_in, xNe_ii, xNe_ss, xLt_ii, xGt_ii, xLe_ii, xGe_ii, xAdd_ii, xAdd_ss, xAdd_tt, xAdd_ll, xSub_ii, xMul_ii, xDiv_ii, xMod_ii, xPow_ii, xNeg_i, xInt_i, xInt_b, xLen_t, xLen_l, xLen_s, xLen_d, xTuple_l, xTuple_t, xList_l, xList_t, xIx_t, xIx_l, xIx_s, xIx_di, xIx_ds, at0, at1, at2, at3, at4, at5, at6, at7, xIs_nn, xIs_i, xIs_s, xIs_b, xIs_t, xIs_l, xIs_d, xIsB_n, xIsB_i, xIsB_s, xIsB_b, yInt_i, yInt_b, yInt_n, yInt_s, yInt_t, yInt_l, yBool_i, yBool_b, yBool_n, yBool_s, yBool_t, yBool_l, yStr_i, yStr_b, yStr_n, yStr_s, yStr_t, yStr_l, yTup_i, yTup_b, yTup_n, yTup_s, yTup_t, yTup_l, yLst_i, yLst_n, yLst_s, yLst_t, yLst_l, xIn_it, xIn_il, xIn_sd, xLt_pp, xGt_pp, xLe_pp, xGe_pp, xII, z0, z1, z2, zput0, zput1, zC, zV, zv_d, zv_l, zv_k, zOp, zUn, zlk_d, zlk_l, zlk_k, zlk_b, zls_d, zls_l, zls_k, zfz_d, zfz_l, zfz_k, zfz_b, zfr_l, zfr_k, zfr_d, ztB, zbk, ztT, ztr_b, ztr_i, ztr_n, ztr_t, ztr_l, ztr_s, ztAnd, ztOr, ztNot, zeAnd, zeOr, zeNot, zeIf, zaNil, zaCons, zTup, zLst, zCB, zCall, zCallK, zfdn, zDicK, zpNone, zpSome, zpsk, zSl, zChain, zchk, zSeq, zsNil, zBreak, zCont, zIf, zSet, zs_d, zs_l, zs_k, zs_b, zRet, zr_d, zr_l, zr_k, zr_b, zRetN, zDrop, zFor, ziE, zit_t, zit_l, zit_s, zR1, zr1, zR2, zr2, zgN, zAsg, zgT, zgsC, zgsN, zApp, zap0, zap, zLc, zclr, zclr2, zbck, zkeep_d, zkeep_n, zDP, zdp0, zdp, zky_i, zky_s, xSorted, xNe_bb, zPop, zpopk, zExt, zextk, zextk2, xUpper, xInW, xIxW, xLt_ss, xLe_ss, xGt_ss, xSl_t, xSl_l, xSl_s, zlNil, zlCons, zpin_d, zpin_l, zpin_k, zpin_b, zlkL0, zlkL1, zCallL, zimm_d, zimm_l, zimm_k, zimm_i, zimm_s, zimm_b, zimm_n, zimm_t, zimm_0, zimm_1, zSortSet, xInS_t, xInS_l, List.length_cons, List.length_nil, List.nil_append, List.append_nil, List.cons_append, true_and, and_true, reduceIte, if_true, if_false, decide_eq_true_eq, Bool.not_true, Bool.not_false, Bool.not_eq_true, Bool.false_eq_true, Nat.reduceAdd, Nat.zero_add, Bool.not_eq_false, decide_false, decide_true, Bool.not_eq_eq_eq_not, Bool.true_eq, decide_not, Bool.not_not, decide_eq_false_iff_not, eq_self]
      by_cases hk : k = 0
      · rw [if_pos hk]
        refine ⟨by rw [List.length_map]; omega, ?_⟩
        have go := words_loop h ws (xs ++ [a]) (.d (.str a)) (fun x hx => hw x (List.mem_cons_of_mem _ hx)) (by simp) (fun x hx => ?_) ?_ (by simp; omega)
        · rw [List.map_append] at go
          exact go
        · rcases List.mem_append.mp hx with hx | hx
          · exact h2 x hx
          · rw [List.mem_singleton.mp hx]; exact hw a (List.mem_cons_self ..)
        · rw [List.nodup_append]
          refine ⟨h3, by simp, fun p hp q hq => ?_⟩
          rw [List.mem_singleton.mp hq]
          exact fun e => c (e ▸ hp)
      · rw [if_neg hk]
        exact stay
def Ei (y : Sl) (vs : List DL.D) : Prop := y = .l vs ∨ y = .d (.lst vs)
theorem cut6 (ls : List Str) : DL.cutD (ls.map D.str) none (some 6) = (ls.take 6).map D.str := by
  unfold DL.cutD
  rw [HT.sIx_none, show (some (6 : Int)) = some ((6 : Nat) : Int) from rfl, HT.sIx_nat, List.drop_zero, Nat.sub_zero, ← List.map_take, List.length_map]
  congr 1
  by_cases h : 6 ≤ ls.length
  · rw [Nat.min_eq_left h]
  · rw [Nat.min_eq_right (by omega), List.take_of_length_le (Nat.le_refl _), List.take_of_length_le (by omega)]
theorem cut1 (ls : List Str) : DL.cutD (ls.map D.str) none (some 1) = (ls.take 1).map D.str := by
  unfold DL.cutD
  rw [HT.sIx_none, show (some (1 : Int)) = some ((1 : Nat) : Int) from rfl, HT.sIx_nat, List.drop_zero, Nat.sub_zero, ← List.map_take, List.length_map]
  congr 1
  by_cases h : 1 ≤ ls.length
  · rw [Nat.min_eq_left h]
  · rw [Nat.min_eq_right (by omega), List.take_of_length_le (Nat.le_refl _), List.take_of_length_le (by omega)]
theorem rows_lc {R : Sl → S → Prop} {s0 : S} {ls vs : List Str} {y3 y5 y7 y8 y9 y10 y11 : Sl} (e0 : get s0.ρ 6 = .no) (ol : Ls ls) (ov : Ls vs) (h : ∀ (rows : List (List Pr)) (y4 : Sl), Ei y4 (vs.map D.str) → (∀ ps ∈ rows, Ser ps) → rows.length ≤ 10 → R (.l (rows.map serD)) ⟨[.d sc, .d .dlr, .l (ls.map D.str), y3, y4, y5, .no, y7, y8, y9, y10, y11], fun _ => none⟩) :
    ∀ (ds : List DL.D) (acc : List (List Pr)) (y4 : Sl), Ei y4 (vs.map D.str) → (∀ ps ∈ acc, Ser ps) → acc.length + ds.length ≤ 10 →
    lcL [6] s0 (gN 6) (fun s R => R true s) E_law_1 R ds (acc.map serD) ⟨[.d sc, .d .dlr, .l (ls.map D.str), y3, y4, y5, .no, y7, y8, y9, y10, y11], fun _ => none⟩
  | [], acc, y4, h4, ha, hl => by
    simp only [lcL_nil, bck, e0, xEq_ii, xEq_ss, xEq_nn, xEq_bb, xEq_ni, xEq_in, xNe_ii, xNe_ss, xLt_ii, xGt_ii, xLe_ii, xGe_ii, xAdd_ii, xAdd_ss, xAdd_tt, xAdd_ll, xSub_ii, xMul_ii, xDiv_ii, xMod_ii, xPow_ii, xNeg_i, xInt_i, xInt_b, xLen_t, xLen_l, xLen_s, xLen_d, xTuple_l, xTuple_t, xList_l, xList_t, xIx_t, xIx_l, xIx_s, xIx_di, xIx_ds, at0, at1, at2, at3, at4, at5, at6, at7, xIs_nn, xIs_i, xIs_s, xIs_b, xIs_t, xIs_l, xIs_d, xIsB_n, xIsB_i, xIsB_s, xIsB_b, yInt_i, yInt_b, yInt_n, yInt_s, yInt_t, yInt_l, yBool_i, yBool_b, yBool_n, yBool_s, yBool_t, yBool_l, yStr_i, yStr_b, yStr_n, yStr_s, yStr_t, yStr_l, yTup_i, yTup_b, yTup_n, yTup_s, yTup_t, yTup_l, yLst_i, yLst_n, yLst_s, yLst_t, yLst_l, xIn_it, xIn_il, xIn_sd, xLt_pp, xGt_pp, xLe_pp, xGe_pp, xII, z0, z1, z2, zput0, zput1, zC, zV, zv_d, zv_l, zv_k, zOp, zUn, zlk_d, zlk_l, zlk_k, zlk_b, zls_d, zls_l, zls_k, zfz_d, zfz_l, zfz_k, zfz_b, zfr_l, zfr_k, zfr_d, ztB, zbk, ztT, ztr_b, ztr_i, ztr_n, ztr_t, ztr_l, ztr_s, ztAnd, ztOr, ztNot, zeAnd, zeOr, zeNot, zeIf, zaNil, zaCons, zTup, zLst, zCB, zCall, zCallK, zfdn, zDicK, zpNone, zpSome, zpsk, zSl, zChain, zchk, zSeq, zsNil, zBreak, zCont, zIf, zSet, zs_d, zs_l, zs_k, zs_b, zRet, zr_d, zr_l, zr_k, zr_b, zRetN, zDrop, zFor, ziE, zit_t, zit_l, zit_s, zR1, zr1, zR2, zr2, zgN, zAsg, zgT, zgsC, zgsN, zApp, zap0, zap, zLc, zclr, zclr2, zbck, zkeep_d, zkeep_n, zDP, zdp0, zdp, zky_i, zky_s, xSorted, xNe_bb, zPop, zpopk, zExt, zextk, zextk2, xUpper, xInW, xIxW, xLt_ss, xLe_ss, xGt_ss, xSl_t, xSl_l, xSl_s, zlNil, zlCons, zpin_d, zpin_l, zpin_k, zpin_b, zlkL0, zlkL1, zCallL, zimm_d, zimm_l, zimm_k, zimm_i, zimm_s, zimm_b, zimm_n, zimm_t, zimm_0, zimm_1, zSortSet, xInS_t, xInS_l, List.length_cons, List.length_nil, List.nil_append, List.append_nil, List.cons_append, true_and, and_true, reduceIte, if_true, if_false, decide_eq_true_eq, Bool.not_true, Bool.not_false, Bool.not_eq_true, Bool.false_eq_true, Nat.reduceAdd, Nat.zero_add, Bool.not_eq_false, decide_false, decide_true, Bool.not_eq_eq_eq_not, Bool.true_eq, decide_not, Bool.not_not, decide_eq_false_iff_not, eq_self]
    exact h acc y4 h4 ha (by simpa using hl)
  | d :: ds, acc, y4, h4, ha, hl => by
    have big : 1000 < sizeLine := by decide
    simp only [List.length_cons] at hl
    have step : ∀ ps : List Pr, Ser ps → (acc.map serD).length < sizeLine ∧ lcL [6] s0 (gN 6) (fun s R => R true s) E_law_1 R ds (acc.map serD ++ [.tup (ps.map prD)]) ⟨[.d sc, .d .dlr, .l (ls.map D.str), y3, .d (.lst (vs.map D.str)), y5, .no, y7, y8, y9, y10, y11], fun _ => none⟩ := fun ps hp => by
      refine ⟨by rw [List.length_map]; omega, ?_⟩
      have ih := rows_lc (s0 := s0) (y3 := y3) (y5 := y5) (y7 := y7) (y8 := y8) (y9 := y9) (y10 := y10) (y11 := y11) e0 ol ov h ds (acc ++ [ps]) _ (.inr rfl) (fun q hq => ?_) (by simp; omega)
      · rw [List.map_append] at ih
        exact ih
      · rcases List.mem_append.mp hq with hq | hq
        · exact ha q hq
        · rw [List.mem_singleton.mp hq]; exact hp
    have six : ∀ {R' : Sl → Mu → Prop}, (∀ ps : List Pr, Ser ps → R' (.d (.tup (ps.map prD))) (fun _ => none)) → fn_p_law_series [.dlr, .lst ((ls.take 6).map D.str), .lst (vs.map D.str)] (fun _ => none) R' := fun {R'} hR =>
      pseries_ok (fun x hx => ol.nm x (List.mem_of_mem_take hx)) (ol.nd.sublist (List.take_sublist _ _)) (by rw [List.length_take]; omega) ov hR
    rcases h4 with rfl | rfl
    · simp only [lcL_cons, E_law_1_eq, xEq_ii, xEq_ss, xEq_nn, xEq_bb, xEq_ni, xEq_in, xNe_ii, xNe_ss, xLt_ii, xGt_ii, xLe_ii, xGe_ii, xAdd_ii, xAdd_ss, xAdd_tt, xAdd_ll, xSub_ii, xMul_ii, xDiv_ii, xMod_ii, xPow_ii, xNeg_i, xInt_i, xInt_b, xLen_t, xLen_l, xLen_s, xLen_d, xTuple_l, xTuple_t, xList_l, xList_t, xIx_t, xIx_l, xIx_s, xIx_di, xIx_ds, at0, at1, at2, at3, at4, at5, at6, at7, xIs_nn, xIs_i, xIs_s, xIs_b, xIs_t, xIs_l, xIs_d, xIsB_n, xIsB_i, xIsB_s, xIsB_b, yInt_i, yInt_b, yInt_n, yInt_s, yInt_t, yInt_l, yBool_i, yBool_b, yBool_n, yBool_s, yBool_t, yBool_l, yStr_i, yStr_b, yStr_n, yStr_s, yStr_t, yStr_l, yTup_i, yTup_b, yTup_n, yTup_s, yTup_t, yTup_l, yLst_i, yLst_n, yLst_s, yLst_t, yLst_l, xIn_it, xIn_il, xIn_sd, xLt_pp, xGt_pp, xLe_pp, xGe_pp, xII, z0, z1, z2, zput0, zput1, zC, zV, zv_d, zv_l, zv_k, zOp, zUn, zlk_d, zlk_l, zlk_k, zlk_b, zls_d, zls_l, zls_k, zfz_d, zfz_l, zfz_k, zfz_b, zfr_l, zfr_k, zfr_d, ztB, zbk, ztT, ztr_b, ztr_i, ztr_n, ztr_t, ztr_l, ztr_s, ztAnd, ztOr, ztNot, zeAnd, zeOr, zeNot, zeIf, zaNil, zaCons, zTup, zLst, zCB, zCall, zCallK, zfdn, zDicK, zpNone, zpSome, zpsk, zSl, zChain, zchk, zSeq, zsNil, zBreak, zCont, zIf, zSet, zs_d, zs_l, zs_k, zs_b, zRet, zr_d, zr_l, zr_k, zr_b, zRetN, zDrop, zFor, ziE, zit_t, zit_l, zit_s, zR1, zr1, zR2, zr2, zgN, zAsg, zgT, zgsC, zgsN, zApp, zap0, zap, zLc, zclr, zclr2, zbck, zkeep_d, zkeep_n, zDP, zdp0, zdp, zky_i, zky_s, xSorted, xNe_bb, zPop, zpopk, zExt, zextk, zextk2, xUpper, xInW, xIxW, xLt_ss, xLe_ss, xGt_ss, xSl_t, xSl_l, xSl_s, zlNil, zlCons, zpin_d, zpin_l, zpin_k, zpin_b, zlkL0, zlkL1, zCallL, zimm_d, zimm_l, zimm_k, zimm_i, zimm_s, zimm_b, zimm_n, zimm_t, zimm_0, zimm_1, zSortSet, xInS_t, xInS_l, List.length_cons, List.length_nil, List.nil_append, List.append_nil, List.cons_append, true_and, and_true, reduceIte, if_true, if_false, decide_eq_true_eq, Bool.not_true, Bool.not_false, Bool.not_eq_true, Bool.false_eq_true, Nat.reduceAdd, Nat.zero_add, Bool.not_eq_false, decide_false, decide_true, Bool.not_eq_eq_eq_not, Bool.true_eq, decide_not, Bool.not_not, decide_eq_false_iff_not, eq_self, cut6]
      refine six fun ps hp => ?_
      simp only [xEq_ii, xEq_ss, xEq_nn, xEq_bb, xEq_ni, xEq_in, xNe_ii, xNe_ss, xLt_ii, xGt_ii, xLe_ii, xGe_ii, xAdd_ii, xAdd_ss, xAdd_tt, xAdd_ll, xSub_ii, xMul_ii, xDiv_ii, xMod_ii, xPow_ii, xNeg_i, xInt_i, xInt_b, xLen_t, xLen_l, xLen_s, xLen_d, xTuple_l, xTuple_t, xList_l, xList_t, xIx_t, xIx_l, xIx_s, xIx_di, xIx_ds, at0, at1, at2, at3, at4, at5, at6, at7, xIs_nn, xIs_i, xIs_s, xIs_b, xIs_t, xIs_l, xIs_d, xIsB_n, xIsB_i, xIsB_s, xIsB_b, yInt_i, yInt_b, yInt_n, yInt_s, yInt_t, yInt_l, yBool_i, yBool_b, yBool_n, yBool_s, yBool_t, yBool_l, yStr_i, yStr_b, yStr_n, yStr_s, yStr_t, yStr_l, yTup_i, yTup_b, yTup_n, yTup_s, yTup_t, yTup_l, yLst_i, yLst_n, yLst_s, yLst_t, yLst_l, xIn_it, xIn_il, xIn_sd, xLt_pp, xGt_pp, xLe_pp, xGe_pp, xII, z0, z1, z2, zput0, zput1, zC, zV, zv_d, zv_l, zv_k, zOp, zUn, zlk_d, zlk_l, zlk_k, zlk_b, zls_d, zls_l, zls_k, zfz_d, zfz_l, zfz_k, zfz_b, zfr_l, zfr_k, zfr_d, ztB, zbk, ztT, ztr_b, ztr_i, ztr_n, ztr_t, ztr_l, ztr_s, ztAnd, ztOr, ztNot, zeAnd, zeOr, zeNot, zeIf, zaNil, zaCons, zTup, zLst, zCB, zCall, zCallK, zfdn, zDicK, zpNone, zpSome, zpsk, zSl, zChain, zchk, zSeq, zsNil, zBreak, zCont, zIf, zSet, zs_d, zs_l, zs_k, zs_b, zRet, zr_d, zr_l, zr_k, zr_b, zRetN, zDrop, zFor, ziE, zit_t, zit_l, zit_s, zR1, zr1, zR2, zr2, zgN, zAsg, zgT, zgsC, zgsN, zApp, zap0, zap, zLc, zclr, zclr2, zbck, zkeep_d, zkeep_n, zDP, zdp0, zdp, zky_i, zky_s, xSorted, xNe_bb, zPop, zpopk, zExt, zextk, zextk2, xUpper, xInW, xIxW, xLt_ss, xLe_ss, xGt_ss, xSl_t, xSl_l, xSl_s, zlNil, zlCons, zpin_d, zpin_l, zpin_k, zpin_b, zlkL0, zlkL1, zCallL, zimm_d, zimm_l, zimm_k, zimm_i, zimm_s, zimm_b, zimm_n, zimm_t, zimm_0, zimm_1, zSortSet, xInS_t, xInS_l, List.length_cons, List.length_nil, List.nil_append, List.append_nil, List.cons_append, true_and, and_true, reduceIte, if_true, if_false, decide_eq_true_eq, Bool.not_true, Bool.not_false, Bool.not_eq_true, Bool.false_eq_true, Nat.reduceAdd, Nat.zero_add, Bool.not_eq_false, decide_false, decide_true, Bool.not_eq_eq_eq_not, Bool.true_eq, decide_not, Bool.not_not, decide_eq_false_iff_not, eq_self]
      exact step ps hp
    · simp only [lcL_cons, E_law_1_eq, xEq_ii, xEq_ss, xEq_nn, xEq_bb, xEq_ni, xEq_in, xNe_ii, xNe_ss, xLt_ii, xGt_ii, xLe_ii, xGe_ii, xAdd_ii, xAdd_ss, xAdd_tt, xAdd_ll, xSub_ii, xMul_ii, xDiv_ii, xMod_ii, xPow_ii, xNeg_i, xInt_i, xInt_b, xLen_t, xLen_l, xLen_s, xLen_d, xTuple_l, xTuple_t, xList_l, xList_t, xIx_t, xIx_l, xIx_s, xIx_di, xIx_ds, at0, at1, at2, at3, at4, at5, at6, at7, xIs_nn, xIs_i, xIs_s, xIs_b, xIs_t, xIs_l, xIs_d, xIsB_n, xIsB_i, xIsB_s, xIsB_b, yInt_i, yInt_b, yInt_n, yInt_s, yInt_t, yInt_l, yBool_i, yBool_b, yBool_n, yBool_s, yBool_t, yBool_l, yStr_i, yStr_b, yStr_n, yStr_s, yStr_t, yStr_l, yTup_i, yTup_b, yTup_n, yTup_s, yTup_t, yTup_l, yLst_i, yLst_n, yLst_s, yLst_t, yLst_l, xIn_it, xIn_il, xIn_sd, xLt_pp, xGt_pp, xLe_pp, xGe_pp, xII, z0, z1, z2, zput0, zput1, zC, zV, zv_d, zv_l, zv_k, zOp, zUn, zlk_d, zlk_l, zlk_k, zlk_b, zls_d, zls_l, zls_k, zfz_d, zfz_l, zfz_k, zfz_b, zfr_l, zfr_k, zfr_d, ztB, zbk, ztT, ztr_b, ztr_i, ztr_n, ztr_t, ztr_l, ztr_s, ztAnd, ztOr, ztNot, zeAnd, zeOr, zeNot, zeIf, zaNil, zaCons, zTup, zLst, zCB, zCall, zCallK, zfdn, zDicK, zpNone, zpSome, zpsk, zSl, zChain, zchk, zSeq, zsNil, zBreak, zCont, zIf, zSet, zs_d, zs_l, zs_k, zs_b, zRet, zr_d, zr_l, zr_k, zr_b, zRetN, zDrop, zFor, ziE, zit_t, zit_l, zit_s, zR1, zr1, zR2, zr2, zgN, zAsg, zgT, zgsC, zgsN, zApp, zap0, zap, zLc, zclr, zclr2, zbck, zkeep_d, zkeep_n, zDP, zdp0, zdp, zky_i, zky_s, xSorted, xNe_bb, zPop, zpopk, zExt, zextk, zextk2, xUpper, xInW, xIxW, xLt_ss, xLe_ss, xGt_ss, xSl_t, xSl_l, xSl_s, zlNil, zlCons, zpin_d, zpin_l, zpin_k, zpin_b, zlkL0, zlkL1, zCallL, zimm_d, zimm_l, zimm_k, zimm_i, zimm_s, zimm_b, zimm_n, zimm_t, zimm_0, zimm_1, zSortSet, xInS_t, xInS_l, List.length_cons, List.length_nil, List.nil_append, List.append_nil, List.cons_append, true_and, and_true, reduceIte, if_true, if_false, decide_eq_true_eq, Bool.not_true, Bool.not_false, Bool.not_eq_true, Bool.false_eq_true, Nat.reduceAdd, Nat.zero_add, Bool.not_eq_false, decide_false, decide_true, Bool.not_eq_eq_eq_not, Bool.true_eq, decide_not, Bool.not_not, decide_eq_false_iff_not, eq_self, cut6]
      refine six fun ps hp => ?_
      simp only [xEq_ii, xEq_ss, xEq_nn, xEq_bb, xEq_ni, xEq_in, xNe_ii, xNe_ss, xLt_ii, xGt_ii, xLe_ii, xGe_ii, xAdd_ii, xAdd_ss, xAdd_tt, xAdd_ll, xSub_ii, xMul_ii, xDiv_ii, xMod_ii, xPow_ii, xNeg_i, xInt_i, xInt_b, xLen_t, xLen_l, xLen_s, xLen_d, xTuple_l, xTuple_t, xList_l, xList_t, xIx_t, xIx_l, xIx_s, xIx_di, xIx_ds, at0, at1, at2, at3, at4, at5, at6, at7, xIs_nn, xIs_i, xIs_s, xIs_b, xIs_t, xIs_l, xIs_d, xIsB_n, xIsB_i, xIsB_s, xIsB_b, yInt_i, yInt_b, yInt_n, yInt_s, yInt_t, yInt_l, yBool_i, yBool_b, yBool_n, yBool_s, yBool_t, yBool_l, yStr_i, yStr_b, yStr_n, yStr_s, yStr_t, yStr_l, yTup_i, yTup_b, yTup_n, yTup_s, yTup_t, yTup_l, yLst_i, yLst_n, yLst_s, yLst_t, yLst_l, xIn_it, xIn_il, xIn_sd, xLt_pp, xGt_pp, xLe_pp, xGe_pp, xII, z0, z1, z2, zput0, zput1, zC, zV, zv_d, zv_l, zv_k, zOp, zUn, zlk_d, zlk_l, zlk_k, zlk_b, zls_d, zls_l, zls_k, zfz_d, zfz_l, zfz_k, zfz_b, zfr_l, zfr_k, zfr_d, ztB, zbk, ztT, ztr_b, ztr_i, ztr_n, ztr_t, ztr_l, ztr_s, ztAnd, ztOr, ztNot, zeAnd, zeOr, zeNot, zeIf, zaNil, zaCons, zTup, zLst, zCB, zCall, zCallK, zfdn, zDicK, zpNone, zpSome, zpsk, zSl, zChain, zchk, zSeq, zsNil, zBreak, zCont, zIf, zSet, zs_d, zs_l, zs_k, zs_b, zRet, zr_d, zr_l, zr_k, zr_b, zRetN, zDrop, zFor, ziE, zit_t, zit_l, zit_s, zR1, zr1, zR2, zr2, zgN, zAsg, zgT, zgsC, zgsN, zApp, zap0, zap, zLc, zclr, zclr2, zbck, zkeep_d, zkeep_n, zDP, zdp0, zdp, zky_i, zky_s, xSorted, xNe_bb, zPop, zpopk, zExt, zextk, zextk2, xUpper, xInW, xIxW, xLt_ss, xLe_ss, xGt_ss, xSl_t, xSl_l, xSl_s, zlNil, zlCons, zpin_d, zpin_l, zpin_k, zpin_b, zlkL0, zlkL1, zCallL, zimm_d, zimm_l, zimm_k, zimm_i, zimm_s, zimm_b, zimm_n, zimm_t, zimm_0, zimm_1, zSortSet, xInS_t, xInS_l, List.length_cons, List.length_nil, List.nil_append, List.append_nil, List.cons_append, true_and, and_true, reduceIte, if_true, if_false, decide_eq_true_eq, Bool.not_true, Bool.not_false, Bool.not_eq_true, Bool.false_eq_true, Nat.reduceAdd, Nat.zero_add, Bool.not_eq_false, decide_false, decide_true, Bool.not_eq_eq_eq_not, Bool.true_eq, decide_not, Bool.not_not, decide_eq_false_iff_not, eq_self]
      exact step ps hp
theorem ask_loop {q : Q} {y2 y3 y4 y5 y6 y7 : Sl} (o : q.Ok) (hn : q.n ≤ 60) (h : ∀ y9 y10 y11, Δ.nx ⟨[.d sc, .d .dlr, y2, y3, y4, y5, y6, y7, .d q.D, y9, y10, y11], fun _ => none⟩) : ∀ (rows : List (List Pr)) (y9 y10 y11 : Sl), (∀ ps ∈ rows, Ser ps) →
    forL (gN 9) B_law_2 Δ (rows.map serD) ⟨[.d sc, .d .dlr, y2, y3, y4, y5, y6, y7, .d q.D, y9, y10, y11], fun _ => none⟩
  | [], y9, y10, y11, _ => h y9 y10 y11
  | ps :: rows, y9, y10, y11, hr => by
    have ih := ask_loop o hn h rows (.d (serD ps)) (.d (.bl (q.ev ps))) (.d (.bl (q.ev ps))) (fun p hp => hr p (List.mem_cons_of_mem _ hp))
    have s := hr ps (List.mem_cons_self ..)
    have ne : (!(q.ev ps == q.ev ps)) = false := by simp
    simp only [List.map_cons, forL_cons, B_law_2_eq, xEq_ii, xEq_ss, xEq_nn, xEq_bb, xEq_ni, xEq_in, xNe_ii, xNe_ss, xLt_ii, xGt_ii, xLe_ii, xGe_ii, xAdd_ii, xAdd_ss, xAdd_tt, xAdd_ll, xSub_ii, xMul_ii, xDiv_ii, xMod_ii, xPow_ii, xNeg_i, xInt_i, xInt_b, xLen_t, xLen_l, xLen_s, xLen_d, xTuple_l, xTuple_t, xList_l, xList_t, xIx_t, xIx_l, xIx_s, xIx_di, xIx_ds, at0, at1, at2, at3, at4, at5, at6, at7, xIs_nn, xIs_i, xIs_s, xIs_b, xIs_t, xIs_l, xIs_d, xIsB_n, xIsB_i, xIsB_s, xIsB_b, yInt_i, yInt_b, yInt_n, yInt_s, yInt_t, yInt_l, yBool_i, yBool_b, yBool_n, yBool_s, yBool_t, yBool_l, yStr_i, yStr_b, yStr_n, yStr_s, yStr_t, yStr_l, yTup_i, yTup_b, yTup_n, yTup_s, yTup_t, yTup_l, yLst_i, yLst_n, yLst_s, yLst_t, yLst_l, xIn_it, xIn_il, xIn_sd, xLt_pp, xGt_pp, xLe_pp, xGe_pp, xII, z0, z1, z2, zput0, zput1, zC, zV, zv_d, zv_l, zv_k, zOp, zUn, zlk_d, zlk_l, zlk_k, zlk_b, zls_d, zls_l, zls_k, zfz_d, zfz_l, zfz_k, zfz_b, zfr_l, zfr_k, zfr_d, ztB, zbk, ztT, ztr_b, ztr_i, ztr_n, ztr_t, ztr_l, ztr_s, ztAnd, ztOr, ztNot, zeAnd, zeOr, zeNot, zeIf, zaNil, zaCons, zTup, zLst, zCB, zCall, zCallK, zfdn, zDicK, zpNone, zpSome, zpsk, zSl, zChain, zchk, zSeq, zsNil, zBreak, zCont, zIf, zSet, zs_d, zs_l, zs_k, zs_b, zRet, zr_d, zr_l, zr_k, zr_b, zRetN, zDrop, zFor, ziE, zit_t, zit_l, zit_s, zR1, zr1, zR2, zr2, zgN, zAsg, zgT, zgsC, zgsN, zApp, zap0, zap, zLc, zclr, zclr2, zbck, zkeep_d, zkeep_n, zDP, zdp0, zdp, zky_i, zky_s, xSorted, xNe_bb, zPop, zpopk, zExt, zextk, zextk2, xUpper, xInW, xIxW, xLt_ss, xLe_ss, xGt_ss, xSl_t, xSl_l, xSl_s, zlNil, zlCons, zpin_d, zpin_l, zpin_k, zpin_b, zlkL0, zlkL1, zCallL, zimm_d, zimm_l, zimm_k, zimm_i, zimm_s, zimm_b, zimm_n, zimm_t, zimm_0, zimm_1, zSortSet, xInS_t, xInS_l, List.length_cons, List.length_nil, List.nil_append, List.append_nil, List.cons_append, true_and, and_true, reduceIte, if_true, if_false, decide_eq_true_eq, Bool.not_true, Bool.not_false, Bool.not_eq_true, Bool.false_eq_true, Nat.reduceAdd, Nat.zero_add, Bool.not_eq_false, decide_false, decide_true, Bool.not_eq_eq_eq_not, Bool.true_eq, decide_not, Bool.not_not, decide_eq_false_iff_not, eq_self]
    refine lawfits_ok 70 q (by omega) ?_
    simp only [xEq_ii, xEq_ss, xEq_nn, xEq_bb, xEq_ni, xEq_in, xNe_ii, xNe_ss, xLt_ii, xGt_ii, xLe_ii, xGe_ii, xAdd_ii, xAdd_ss, xAdd_tt, xAdd_ll, xSub_ii, xMul_ii, xDiv_ii, xMod_ii, xPow_ii, xNeg_i, xInt_i, xInt_b, xLen_t, xLen_l, xLen_s, xLen_d, xTuple_l, xTuple_t, xList_l, xList_t, xIx_t, xIx_l, xIx_s, xIx_di, xIx_ds, at0, at1, at2, at3, at4, at5, at6, at7, xIs_nn, xIs_i, xIs_s, xIs_b, xIs_t, xIs_l, xIs_d, xIsB_n, xIsB_i, xIsB_s, xIsB_b, yInt_i, yInt_b, yInt_n, yInt_s, yInt_t, yInt_l, yBool_i, yBool_b, yBool_n, yBool_s, yBool_t, yBool_l, yStr_i, yStr_b, yStr_n, yStr_s, yStr_t, yStr_l, yTup_i, yTup_b, yTup_n, yTup_s, yTup_t, yTup_l, yLst_i, yLst_n, yLst_s, yLst_t, yLst_l, xIn_it, xIn_il, xIn_sd, xLt_pp, xGt_pp, xLe_pp, xGe_pp, xII, z0, z1, z2, zput0, zput1, zC, zV, zv_d, zv_l, zv_k, zOp, zUn, zlk_d, zlk_l, zlk_k, zlk_b, zls_d, zls_l, zls_k, zfz_d, zfz_l, zfz_k, zfz_b, zfr_l, zfr_k, zfr_d, ztB, zbk, ztT, ztr_b, ztr_i, ztr_n, ztr_t, ztr_l, ztr_s, ztAnd, ztOr, ztNot, zeAnd, zeOr, zeNot, zeIf, zaNil, zaCons, zTup, zLst, zCB, zCall, zCallK, zfdn, zDicK, zpNone, zpSome, zpsk, zSl, zChain, zchk, zSeq, zsNil, zBreak, zCont, zIf, zSet, zs_d, zs_l, zs_k, zs_b, zRet, zr_d, zr_l, zr_k, zr_b, zRetN, zDrop, zFor, ziE, zit_t, zit_l, zit_s, zR1, zr1, zR2, zr2, zgN, zAsg, zgT, zgsC, zgsN, zApp, zap0, zap, zLc, zclr, zclr2, zbck, zkeep_d, zkeep_n, zDP, zdp0, zdp, zky_i, zky_s, xSorted, xNe_bb, zPop, zpopk, zExt, zextk, zextk2, xUpper, xInW, xIxW, xLt_ss, xLe_ss, xGt_ss, xSl_t, xSl_l, xSl_s, zlNil, zlCons, zpin_d, zpin_l, zpin_k, zpin_b, zlkL0, zlkL1, zCallL, zimm_d, zimm_l, zimm_k, zimm_i, zimm_s, zimm_b, zimm_n, zimm_t, zimm_0, zimm_1, zSortSet, xInS_t, xInS_l, List.length_cons, List.length_nil, List.nil_append, List.append_nil, List.cons_append, true_and, and_true, reduceIte, if_true, if_false, decide_eq_true_eq, Bool.not_true, Bool.not_false, Bool.not_eq_true, Bool.false_eq_true, Nat.reduceAdd, Nat.zero_add, Bool.not_eq_false, decide_false, decide_true, Bool.not_eq_eq_eq_not, Bool.true_eq, decide_not, Bool.not_not, decide_eq_false_iff_not, eq_self]
    refine fits_ok s o hn ?_
    simp only [xEq_ii, xEq_ss, xEq_nn, xEq_bb, xEq_ni, xEq_in, xNe_ii, xNe_ss, xLt_ii, xGt_ii, xLe_ii, xGe_ii, xAdd_ii, xAdd_ss, xAdd_tt, xAdd_ll, xSub_ii, xMul_ii, xDiv_ii, xMod_ii, xPow_ii, xNeg_i, xInt_i, xInt_b, xLen_t, xLen_l, xLen_s, xLen_d, xTuple_l, xTuple_t, xList_l, xList_t, xIx_t, xIx_l, xIx_s, xIx_di, xIx_ds, at0, at1, at2, at3, at4, at5, at6, at7, xIs_nn, xIs_i, xIs_s, xIs_b, xIs_t, xIs_l, xIs_d, xIsB_n, xIsB_i, xIsB_s, xIsB_b, yInt_i, yInt_b, yInt_n, yInt_s, yInt_t, yInt_l, yBool_i, yBool_b, yBool_n, yBool_s, yBool_t, yBool_l, yStr_i, yStr_b, yStr_n, yStr_s, yStr_t, yStr_l, yTup_i, yTup_b, yTup_n, yTup_s, yTup_t, yTup_l, yLst_i, yLst_n, yLst_s, yLst_t, yLst_l, xIn_it, xIn_il, xIn_sd, xLt_pp, xGt_pp, xLe_pp, xGe_pp, xII, z0, z1, z2, zput0, zput1, zC, zV, zv_d, zv_l, zv_k, zOp, zUn, zlk_d, zlk_l, zlk_k, zlk_b, zls_d, zls_l, zls_k, zfz_d, zfz_l, zfz_k, zfz_b, zfr_l, zfr_k, zfr_d, ztB, zbk, ztT, ztr_b, ztr_i, ztr_n, ztr_t, ztr_l, ztr_s, ztAnd, ztOr, ztNot, zeAnd, zeOr, zeNot, zeIf, zaNil, zaCons, zTup, zLst, zCB, zCall, zCallK, zfdn, zDicK, zpNone, zpSome, zpsk, zSl, zChain, zchk, zSeq, zsNil, zBreak, zCont, zIf, zSet, zs_d, zs_l, zs_k, zs_b, zRet, zr_d, zr_l, zr_k, zr_b, zRetN, zDrop, zFor, ziE, zit_t, zit_l, zit_s, zR1, zr1, zR2, zr2, zgN, zAsg, zgT, zgsC, zgsN, zApp, zap0, zap, zLc, zclr, zclr2, zbck, zkeep_d, zkeep_n, zDP, zdp0, zdp, zky_i, zky_s, xSorted, xNe_bb, zPop, zpopk, zExt, zextk, zextk2, xUpper, xInW, xIxW, xLt_ss, xLe_ss, xGt_ss, xSl_t, xSl_l, xSl_s, zlNil, zlCons, zpin_d, zpin_l, zpin_k, zpin_b, zlkL0, zlkL1, zCallL, zimm_d, zimm_l, zimm_k, zimm_i, zimm_s, zimm_b, zimm_n, zimm_t, zimm_0, zimm_1, zSortSet, xInS_t, xInS_l, List.length_cons, List.length_nil, List.nil_append, List.append_nil, List.cons_append, true_and, and_true, reduceIte, if_true, if_false, decide_eq_true_eq, Bool.not_true, Bool.not_false, Bool.not_eq_true, Bool.false_eq_true, Nat.reduceAdd, Nat.zero_add, Bool.not_eq_false, decide_false, decide_true, Bool.not_eq_eq_eq_not, Bool.true_eq, decide_not, Bool.not_not, decide_eq_false_iff_not, eq_self, ne]
    refine fits_ok s o hn ?_
    simp only [xEq_ii, xEq_ss, xEq_nn, xEq_bb, xEq_ni, xEq_in, xNe_ii, xNe_ss, xLt_ii, xGt_ii, xLe_ii, xGe_ii, xAdd_ii, xAdd_ss, xAdd_tt, xAdd_ll, xSub_ii, xMul_ii, xDiv_ii, xMod_ii, xPow_ii, xNeg_i, xInt_i, xInt_b, xLen_t, xLen_l, xLen_s, xLen_d, xTuple_l, xTuple_t, xList_l, xList_t, xIx_t, xIx_l, xIx_s, xIx_di, xIx_ds, at0, at1, at2, at3, at4, at5, at6, at7, xIs_nn, xIs_i, xIs_s, xIs_b, xIs_t, xIs_l, xIs_d, xIsB_n, xIsB_i, xIsB_s, xIsB_b, yInt_i, yInt_b, yInt_n, yInt_s, yInt_t, yInt_l, yBool_i, yBool_b, yBool_n, yBool_s, yBool_t, yBool_l, yStr_i, yStr_b, yStr_n, yStr_s, yStr_t, yStr_l, yTup_i, yTup_b, yTup_n, yTup_s, yTup_t, yTup_l, yLst_i, yLst_n, yLst_s, yLst_t, yLst_l, xIn_it, xIn_il, xIn_sd, xLt_pp, xGt_pp, xLe_pp, xGe_pp, xII, z0, z1, z2, zput0, zput1, zC, zV, zv_d, zv_l, zv_k, zOp, zUn, zlk_d, zlk_l, zlk_k, zlk_b, zls_d, zls_l, zls_k, zfz_d, zfz_l, zfz_k, zfz_b, zfr_l, zfr_k, zfr_d, ztB, zbk, ztT, ztr_b, ztr_i, ztr_n, ztr_t, ztr_l, ztr_s, ztAnd, ztOr, ztNot, zeAnd, zeOr, zeNot, zeIf, zaNil, zaCons, zTup, zLst, zCB, zCall, zCallK, zfdn, zDicK, zpNone, zpSome, zpsk, zSl, zChain, zchk, zSeq, zsNil, zBreak, zCont, zIf, zSet, zs_d, zs_l, zs_k, zs_b, zRet, zr_d, zr_l, zr_k, zr_b, zRetN, zDrop, zFor, ziE, zit_t, zit_l, zit_s, zR1, zr1, zR2, zr2, zgN, zAsg, zgT, zgsC, zgsN, zApp, zap0, zap, zLc, zclr, zclr2, zbck, zkeep_d, zkeep_n, zDP, zdp0, zdp, zky_i, zky_s, xSorted, xNe_bb, zPop, zpopk, zExt, zextk, zextk2, xUpper, xInW, xIxW, xLt_ss, xLe_ss, xGt_ss, xSl_t, xSl_l, xSl_s, zlNil, zlCons, zpin_d, zpin_l, zpin_k, zpin_b, zlkL0, zlkL1, zCallL, zimm_d, zimm_l, zimm_k, zimm_i, zimm_s, zimm_b, zimm_n, zimm_t, zimm_0, zimm_1, zSortSet, xInS_t, xInS_l, List.length_cons, List.length_nil, List.nil_append, List.append_nil, List.cons_append, true_and, and_true, reduceIte, if_true, if_false, decide_eq_true_eq, Bool.not_true, Bool.not_false, Bool.not_eq_true, Bool.false_eq_true, Nat.reduceAdd, Nat.zero_add, Bool.not_eq_false, decide_false, decide_true, Bool.not_eq_eq_eq_not, Bool.true_eq, decide_not, Bool.not_not, decide_eq_false_iff_not, eq_self, ne]
    exact ih
theorem sel_loop {ls vs : List Str} {rows : List (List Pr)} (ol : Ls ls) (ov : Ls vs) (hr : ∀ ps ∈ rows, Ser ps) {y3 : Sl}
    (h : ∀ y4 y5 y6 y7 y8 y9 y10 y11, Δ.nx ⟨[.d sc, .d .dlr, .l (ls.map D.str), y3, y4, y5, y6, y7, y8, y9, y10, y11], fun _ => none⟩) : ∀ (ds : List DL.D) (y4 y5 y6 y7 y8 y9 y10 y11 : Sl), Ei y4 (vs.map D.str) → Ei y5 (rows.map serD) →
    forL (gN 6) B_law_3 Δ ds ⟨[.d sc, .d .dlr, .l (ls.map D.str), y3, y4, y5, y6, y7, y8, y9, y10, y11], fun _ => none⟩
  | [], y4, y5, y6, y7, y8, y9, y10, y11, _, _ => h y4 y5 y6 y7 y8 y9 y10 y11
  | d :: ds, y4, y5, y6, y7, y8, y9, y10, y11, h4, h5 => by
    have par : ∀ {R' : Sl → Mu → Prop}, (∀ n : Nat, 1 ≤ n → n ≤ 60 → R' (.d (.int (n : Nat))) (fun _ => none)) → fn_p_law_one [.dlr, .tup [.int 1, .int 2, .int 3, .int 5, .int 9, .int 20, .int 59, .int 60]] (fun _ => none) R' := fun {R'} hR =>
      one_p [1, 2, 3, 5, 9, 20, 59, 60] (fun j => 1 ≤ j ∧ j ≤ 60) (by decide) fun j hj => by
        obtain ⟨n, rfl⟩ := Int.eq_ofNat_of_zero_le (show 0 ≤ j by omega)
        exact hR n (by omega) (by omega)
    have fin : ∀ (n : Nat) (q : Q) (y4 : Sl), q.Ok → q.n ≤ 60 → Ei y4 (vs.map D.str) → forL (gN 9) B_law_2 ⟨forL (gN 6) B_law_3 Δ ds, Δ.rt, Δ.nx, forL (gN 6) B_law_3 Δ ds⟩ (rows.map serD) ⟨[.d sc, .d .dlr, .l (ls.map D.str), y3, y4, .d (.lst (rows.map serD)), .d d, .d (.int (n : Nat)), .d q.D, y9, y10, y11], fun _ => none⟩ := fun n q y4 oq nq e4 =>
      ask_loop oq nq (fun y9 y10 y11 => sel_loop ol ov hr h ds _ _ _ _ _ _ _ _ e4 (.inr rfl)) rows y9 y10 y11 hr
    simp only [forL_cons, xEq_ii, xEq_ss, xEq_nn, xEq_bb, xEq_ni, xEq_in, xNe_ii, xNe_ss, xLt_ii, xGt_ii, xLe_ii, xGe_ii, xAdd_ii, xAdd_ss, xAdd_tt, xAdd_ll, xSub_ii, xMul_ii, xDiv_ii, xMod_ii, xPow_ii, xNeg_i, xInt_i, xInt_b, xLen_t, xLen_l, xLen_s, xLen_d, xTuple_l, xTuple_t, xList_l, xList_t, xIx_t, xIx_l, xIx_s, xIx_di, xIx_ds, at0, at1, at2, at3, at4, at5, at6, at7, xIs_nn, xIs_i, xIs_s, xIs_b, xIs_t, xIs_l, xIs_d, xIsB_n, xIsB_i, xIsB_s, xIsB_b, yInt_i, yInt_b, yInt_n, yInt_s, yInt_t, yInt_l, yBool_i, yBool_b, yBool_n, yBool_s, yBool_t, yBool_l, yStr_i, yStr_b, yStr_n, yStr_s, yStr_t, yStr_l, yTup_i, yTup_b, yTup_n, yTup_s, yTup_t, yTup_l, yLst_i, yLst_n, yLst_s, yLst_t, yLst_l, xIn_it, xIn_il, xIn_sd, xLt_pp, xGt_pp, xLe_pp, xGe_pp, xII, z0, z1, z2, zput0, zput1, zC, zV, zv_d, zv_l, zv_k, zOp, zUn, zlk_d, zlk_l, zlk_k, zlk_b, zls_d, zls_l, zls_k, zfz_d, zfz_l, zfz_k, zfz_b, zfr_l, zfr_k, zfr_d, ztB, zbk, ztT, ztr_b, ztr_i, ztr_n, ztr_t, ztr_l, ztr_s, ztAnd, ztOr, ztNot, zeAnd, zeOr, zeNot, zeIf, zaNil, zaCons, zTup, zLst, zCB, zCall, zCallK, zfdn, zDicK, zpNone, zpSome, zpsk, zSl, zChain, zchk, zSeq, zsNil, zBreak, zCont, zIf, zSet, zs_d, zs_l, zs_k, zs_b, zRet, zr_d, zr_l, zr_k, zr_b, zRetN, zDrop, zFor, ziE, zit_t, zit_l, zit_s, zR1, zr1, zR2, zr2, zgN, zAsg, zgT, zgsC, zgsN, zApp, zap0, zap, zLc, zclr, zclr2, zbck, zkeep_d, zkeep_n, zDP, zdp0, zdp, zky_i, zky_s, xSorted, xNe_bb, zPop, zpopk, zExt, zextk, zextk2, xUpper, xInW, xIxW, xLt_ss, xLe_ss, xGt_ss, xSl_t, xSl_l, xSl_s, zlNil, zlCons, zpin_d, zpin_l, zpin_k, zpin_b, zlkL0, zlkL1, zCallL, zimm_d, zimm_l, zimm_k, zimm_i, zimm_s, zimm_b, zimm_n, zimm_t, zimm_0, zimm_1, zSortSet, xInS_t, xInS_l, List.length_cons, List.length_nil, List.nil_append, List.append_nil, List.cons_append, true_and, and_true, reduceIte, if_true, if_false, decide_eq_true_eq, Bool.not_true, Bool.not_false, Bool.not_eq_true, Bool.false_eq_true, Nat.reduceAdd, Nat.zero_add, Bool.not_eq_false, decide_false, decide_true, Bool.not_eq_eq_eq_not, Bool.true_eq, decide_not, Bool.not_not, decide_eq_false_iff_not, eq_self, B_law_3_eq]
    refine ⟨by decide, par fun n n1 n2 => ?_⟩
    rcases h4 with rfl | rfl <;> rcases h5 with rfl | rfl <;> simp only [xEq_ii, xEq_ss, xEq_nn, xEq_bb, xEq_ni, xEq_in, xNe_ii, xNe_ss, xLt_ii, xGt_ii, xLe_ii, xGe_ii, xAdd_ii, xAdd_ss, xAdd_tt, xAdd_ll, xSub_ii, xMul_ii, xDiv_ii, xMod_ii, xPow_ii, xNeg_i, xInt_i, xInt_b, xLen_t, xLen_l, xLen_s, xLen_d, xTuple_l, xTuple_t, xList_l, xList_t, xIx_t, xIx_l, xIx_s, xIx_di, xIx_ds, at0, at1, at2, at3, at4, at5, at6, at7, xIs_nn, xIs_i, xIs_s, xIs_b, xIs_t, xIs_l, xIs_d, xIsB_n, xIsB_i, xIsB_s, xIsB_b, yInt_i, yInt_b, yInt_n, yInt_s, yInt_t, yInt_l, yBool_i, yBool_b, yBool_n, yBool_s, yBool_t, yBool_l, yStr_i, yStr_b, yStr_n, yStr_s, yStr_t, yStr_l, yTup_i, yTup_b, yTup_n, yTup_s, yTup_t, yTup_l, yLst_i, yLst_n, yLst_s, yLst_t, yLst_l, xIn_it, xIn_il, xIn_sd, xLt_pp, xGt_pp, xLe_pp, xGe_pp, xII, z0, z1, z2, zput0, zput1, zC, zV, zv_d, zv_l, zv_k, zOp, zUn, zlk_d, zlk_l, zlk_k, zlk_b, zls_d, zls_l, zls_k, zfz_d, zfz_l, zfz_k, zfz_b, zfr_l, zfr_k, zfr_d, ztB, zbk, ztT, ztr_b, ztr_i, ztr_n, ztr_t, ztr_l, ztr_s, ztAnd, ztOr, ztNot, zeAnd, zeOr, zeNot, zeIf, zaNil, zaCons, zTup, zLst, zCB, zCall, zCallK, zfdn, zDicK, zpNone, zpSome, zpsk, zSl, zChain, zchk, zSeq, zsNil, zBreak, zCont, zIf, zSet, zs_d, zs_l, zs_k, zs_b, zRet, zr_d, zr_l, zr_k, zr_b, zRetN, zDrop, zFor, ziE, zit_t, zit_l, zit_s, zR1, zr1, zR2, zr2, zgN, zAsg, zgT, zgsC, zgsN, zApp, zap0, zap, zLc, zclr, zclr2, zbck, zkeep_d, zkeep_n, zDP, zdp0, zdp, zky_i, zky_s, xSorted, xNe_bb, zPop, zpopk, zExt, zextk, zextk2, xUpper, xInW, xIxW, xLt_ss, xLe_ss, xGt_ss, xSl_t, xSl_l, xSl_s, zlNil, zlCons, zpin_d, zpin_l, zpin_k, zpin_b, zlkL0, zlkL1, zCallL, zimm_d, zimm_l, zimm_k, zimm_i, zimm_s, zimm_b, zimm_n, zimm_t, zimm_0, zimm_1, zSortSet, xInS_t, xInS_l, List.length_cons, List.length_nil, List.nil_append, List.append_nil, List.cons_append, true_and, and_true, reduceIte, if_true, if_false, decide_eq_true_eq, Bool.not_true, Bool.not_false, Bool.not_eq_true, Bool.false_eq_true, Nat.reduceAdd, Nat.zero_add, Bool.not_eq_false, decide_false, decide_true, Bool.not_eq_eq_eq_not, Bool.true_eq, decide_not, Bool.not_not, decide_eq_false_iff_not, eq_self] <;> refine pselector_ok ol ov 70 n n1 (by omega) n2 fun q oq nq => ?_ <;> simp only [xEq_ii, xEq_ss, xEq_nn, xEq_bb, xEq_ni, xEq_in, xNe_ii, xNe_ss, xLt_ii, xGt_ii, xLe_ii, xGe_ii, xAdd_ii, xAdd_ss, xAdd_tt, xAdd_ll, xSub_ii, xMul_ii, xDiv_ii, xMod_ii, xPow_ii, xNeg_i, xInt_i, xInt_b, xLen_t, xLen_l, xLen_s, xLen_d, xTuple_l, xTuple_t, xList_l, xList_t, xIx_t, xIx_l, xIx_s, xIx_di, xIx_ds, at0, at1, at2, at3, at4, at5, at6, at7, xIs_nn, xIs_i, xIs_s, xIs_b, xIs_t, xIs_l, xIs_d, xIsB_n, xIsB_i, xIsB_s, xIsB_b, yInt_i, yInt_b, yInt_n, yInt_s, yInt_t, yInt_l, yBool_i, yBool_b, yBool_n, yBool_s, yBool_t, yBool_l, yStr_i, yStr_b, yStr_n, yStr_s, yStr_t, yStr_l, yTup_i, yTup_b, yTup_n, yTup_s, yTup_t, yTup_l, yLst_i, yLst_n, yLst_s, yLst_t, yLst_l, xIn_it, xIn_il, xIn_sd, xLt_pp, xGt_pp, xLe_pp, xGe_pp, xII, z0, z1, z2, zput0, zput1, zC, zV, zv_d, zv_l, zv_k, zOp, zUn, zlk_d, zlk_l, zlk_k, zlk_b, zls_d, zls_l, zls_k, zfz_d, zfz_l, zfz_k, zfz_b, zfr_l, zfr_k, zfr_d, ztB, zbk, ztT, ztr_b, ztr_i, ztr_n, ztr_t, ztr_l, ztr_s, ztAnd, ztOr, ztNot, zeAnd, zeOr, zeNot, zeIf, zaNil, zaCons, zTup, zLst, zCB, zCall, zCallK, zfdn, zDicK, zpNone, zpSome, zpsk, zSl, zChain, zchk, zSeq, zsNil, zBreak, zCont, zIf, zSet, zs_d, zs_l, zs_k, zs_b, zRet, zr_d, zr_l, zr_k, zr_b, zRetN, zDrop, zFor, ziE, zit_t, zit_l, zit_s, zR1, zr1, zR2, zr2, zgN, zAsg, zgT, zgsC, zgsN, zApp, zap0, zap, zLc, zclr, zclr2, zbck, zkeep_d, zkeep_n, zDP, zdp0, zdp, zky_i, zky_s, xSorted, xNe_bb, zPop, zpopk, zExt, zextk, zextk2, xUpper, xInW, xIxW, xLt_ss, xLe_ss, xGt_ss, xSl_t, xSl_l, xSl_s, zlNil, zlCons, zpin_d, zpin_l, zpin_k, zpin_b, zlkL0, zlkL1, zCallL, zimm_d, zimm_l, zimm_k, zimm_i, zimm_s, zimm_b, zimm_n, zimm_t, zimm_0, zimm_1, zSortSet, xInS_t, xInS_l, List.length_cons, List.length_nil, List.nil_append, List.append_nil, List.cons_append, true_and, and_true, reduceIte, if_true, if_false, decide_eq_true_eq, Bool.not_true, Bool.not_false, Bool.not_eq_true, Bool.false_eq_true, Nat.reduceAdd, Nat.zero_add, Bool.not_eq_false, decide_false, decide_true, Bool.not_eq_eq_eq_not, Bool.true_eq, decide_not, Bool.not_not, decide_eq_false_iff_not, eq_self, Q.imm] <;> exact fin n q _ oq (by omega) (by first | exact .inl rfl | exact .inr rfl)
end
theorem law_true (ns : List Int) (hn : ns.length ≤ 63) : fn_law [.lst (ns.map D.int)] (fun _ => none) fun r _ => r = .d (.bl true) := by
  show Φ_law _ ⟨[.d (.lst (ns.map D.int)), .no, .no, .no, .no, .no, .no, .no, .no, .no, .no, .no], _⟩
  simp only [Φ_law, xEq_ii, xEq_ss, xEq_nn, xEq_bb, xEq_ni, xEq_in, xNe_ii, xNe_ss, xLt_ii, xGt_ii, xLe_ii, xGe_ii, xAdd_ii, xAdd_ss, xAdd_tt, xAdd_ll, xSub_ii, xMul_ii, xDiv_ii, xMod_ii, xPow_ii, xNeg_i, xInt_i, xInt_b, xLen_t, xLen_l, xLen_s, xLen_d, xTuple_l, xTuple_t, xList_l, xList_t, xIx_t, xIx_l, xIx_s, xIx_di, xIx_ds, at0, at1, at2, at3, at4, at5, at6, at7, xIs_nn, xIs_i, xIs_s, xIs_b, xIs_t, xIs_l, xIs_d, xIsB_n, xIsB_i, xIsB_s, xIsB_b, yInt_i, yInt_b, yInt_n, yInt_s, yInt_t, yInt_l, yBool_i, yBool_b, yBool_n, yBool_s, yBool_t, yBool_l, yStr_i, yStr_b, yStr_n, yStr_s, yStr_t, yStr_l, yTup_i, yTup_b, yTup_n, yTup_s, yTup_t, yTup_l, yLst_i, yLst_n, yLst_s, yLst_t, yLst_l, xIn_it, xIn_il, xIn_sd, xLt_pp, xGt_pp, xLe_pp, xGe_pp, xII, z0, z1, z2, zput0, zput1, zC, zV, zv_d, zv_l, zv_k, zOp, zUn, zlk_d, zlk_l, zlk_k, zlk_b, zls_d, zls_l, zls_k, zfz_d, zfz_l, zfz_k, zfz_b, zfr_l, zfr_k, zfr_d, ztB, zbk, ztT, ztr_b, ztr_i, ztr_n, ztr_t, ztr_l, ztr_s, ztAnd, ztOr, ztNot, zeAnd, zeOr, zeNot, zeIf, zaNil, zaCons, zTup, zLst, zCB, zCall, zCallK, zfdn, zDicK, zpNone, zpSome, zpsk, zSl, zChain, zchk, zSeq, zsNil, zBreak, zCont, zIf, zSet, zs_d, zs_l, zs_k, zs_b, zRet, zr_d, zr_l, zr_k, zr_b, zRetN, zDrop, zFor, ziE, zit_t, zit_l, zit_s, zR1, zr1, zR2, zr2, zgN, zAsg, zgT, zgsC, zgsN, zApp, zap0, zap, zLc, zclr, zclr2, zbck, zkeep_d, zkeep_n, zDP, zdp0, zdp, zky_i, zky_s, xSorted, xNe_bb, zPop, zpopk, zExt, zextk, zextk2, xUpper, xInW, xIxW, xLt_ss, xLe_ss, xGt_ss, xSl_t, xSl_l, xSl_s, zlNil, zlCons, zpin_d, zpin_l, zpin_k, zpin_b, zlkL0, zlkL1, zCallL, zimm_d, zimm_l, zimm_k, zimm_i, zimm_s, zimm_b, zimm_n, zimm_t, zimm_0, zimm_1, zSortSet, xInS_t, xInS_l, List.length_cons, List.length_nil, List.nil_append, List.append_nil, List.cons_append, true_and, and_true, reduceIte, if_true, if_false, decide_eq_true_eq, Bool.not_true, Bool.not_false, Bool.not_eq_true, Bool.false_eq_true, Nat.reduceAdd, Nat.zero_add, Bool.not_eq_false, decide_false, decide_true, Bool.not_eq_eq_eq_not, Bool.true_eq, decide_not, Bool.not_not, decide_eq_false_iff_not, eq_self]
  refine ⟨ns, rfl, hn, ?_⟩
  simp only [xEq_ii, xEq_ss, xEq_nn, xEq_bb, xEq_ni, xEq_in, xNe_ii, xNe_ss, xLt_ii, xGt_ii, xLe_ii, xGe_ii, xAdd_ii, xAdd_ss, xAdd_tt, xAdd_ll, xSub_ii, xMul_ii, xDiv_ii, xMod_ii, xPow_ii, xNeg_i, xInt_i, xInt_b, xLen_t, xLen_l, xLen_s, xLen_d, xTuple_l, xTuple_t, xList_l, xList_t, xIx_t, xIx_l, xIx_s, xIx_di, xIx_ds, at0, at1, at2, at3, at4, at5, at6, at7, xIs_nn, xIs_i, xIs_s, xIs_b, xIs_t, xIs_l, xIs_d, xIsB_n, xIsB_i, xIsB_s, xIsB_b, yInt_i, yInt_b, yInt_n, yInt_s, yInt_t, yInt_l, yBool_i, yBool_b, yBool_n, yBool_s, yBool_t, yBool_l, yStr_i, yStr_b, yStr_n, yStr_s, yStr_t, yStr_l, yTup_i, yTup_b, yTup_n, yTup_s, yTup_t, yTup_l, yLst_i, yLst_n, yLst_s, yLst_t, yLst_l, xIn_it, xIn_il, xIn_sd, xLt_pp, xGt_pp, xLe_pp, xGe_pp, xII, z0, z1, z2, zput0, zput1, zC, zV, zv_d, zv_l, zv_k, zOp, zUn, zlk_d, zlk_l, zlk_k, zlk_b, zls_d, zls_l, zls_k, zfz_d, zfz_l, zfz_k, zfz_b, zfr_l, zfr_k, zfr_d, ztB, zbk, ztT, ztr_b, ztr_i, ztr_n, ztr_t, ztr_l, ztr_s, ztAnd, ztOr, ztNot, zeAnd, zeOr, zeNot, zeIf, zaNil, zaCons, zTup, zLst, zCB, zCall, zCallK, zfdn, zDicK, zpNone, zpSome, zpsk, zSl, zChain, zchk, zSeq, zsNil, zBreak, zCont, zIf, zSet, zs_d, zs_l, zs_k, zs_b, zRet, zr_d, zr_l, zr_k, zr_b, zRetN, zDrop, zFor, ziE, zit_t, zit_l, zit_s, zR1, zr1, zR2, zr2, zgN, zAsg, zgT, zgsC, zgsN, zApp, zap0, zap, zLc, zclr, zclr2, zbck, zkeep_d, zkeep_n, zDP, zdp0, zdp, zky_i, zky_s, xSorted, xNe_bb, zPop, zpopk, zExt, zextk, zextk2, xUpper, xInW, xIxW, xLt_ss, xLe_ss, xGt_ss, xSl_t, xSl_l, xSl_s, zlNil, zlCons, zpin_d, zpin_l, zpin_k, zpin_b, zlkL0, zlkL1, zCallL, zimm_d, zimm_l, zimm_k, zimm_i, zimm_s, zimm_b, zimm_n, zimm_t, zimm_0, zimm_1, zSortSet, xInS_t, xInS_l, List.length_cons, List.length_nil, List.nil_append, List.append_nil, List.cons_append, true_and, and_true, reduceIte, if_true, if_false, decide_eq_true_eq, Bool.not_true, Bool.not_false, Bool.not_eq_true, Bool.false_eq_true, Nat.reduceAdd, Nat.zero_add, Bool.not_eq_false, decide_false, decide_true, Bool.not_eq_eq_eq_not, Bool.true_eq, decide_not, Bool.not_not, decide_eq_false_iff_not, eq_self]
  refine pool_ok (m := 4) (by decide) (by decide) fun xs hp => ?_
  simp only [xEq_ii, xEq_ss, xEq_nn, xEq_bb, xEq_ni, xEq_in, xNe_ii, xNe_ss, xLt_ii, xGt_ii, xLe_ii, xGe_ii, xAdd_ii, xAdd_ss, xAdd_tt, xAdd_ll, xSub_ii, xMul_ii, xDiv_ii, xMod_ii, xPow_ii, xNeg_i, xInt_i, xInt_b, xLen_t, xLen_l, xLen_s, xLen_d, xTuple_l, xTuple_t, xList_l, xList_t, xIx_t, xIx_l, xIx_s, xIx_di, xIx_ds, at0, at1, at2, at3, at4, at5, at6, at7, xIs_nn, xIs_i, xIs_s, xIs_b, xIs_t, xIs_l, xIs_d, xIsB_n, xIsB_i, xIsB_s, xIsB_b, yInt_i, yInt_b, yInt_n, yInt_s, yInt_t, yInt_l, yBool_i, yBool_b, yBool_n, yBool_s, yBool_t, yBool_l, yStr_i, yStr_b, yStr_n, yStr_s, yStr_t, yStr_l, yTup_i, yTup_b, yTup_n, yTup_s, yTup_t, yTup_l, yLst_i, yLst_n, yLst_s, yLst_t, yLst_l, xIn_it, xIn_il, xIn_sd, xLt_pp, xGt_pp, xLe_pp, xGe_pp, xII, z0, z1, z2, zput0, zput1, zC, zV, zv_d, zv_l, zv_k, zOp, zUn, zlk_d, zlk_l, zlk_k, zlk_b, zls_d, zls_l, zls_k, zfz_d, zfz_l, zfz_k, zfz_b, zfr_l, zfr_k, zfr_d, ztB, zbk, ztT, ztr_b, ztr_i, ztr_n, ztr_t, ztr_l, ztr_s, ztAnd, ztOr, ztNot, zeAnd, zeOr, zeNot, zeIf, zaNil, zaCons, zTup, zLst, zCB, zCall, zCallK, zfdn, zDicK, zpNone, zpSome, zpsk, zSl, zChain, zchk, zSeq, zsNil, zBreak, zCont, zIf, zSet, zs_d, zs_l, zs_k, zs_b, zRet, zr_d, zr_l, zr_k, zr_b, zRetN, zDrop, zFor, ziE, zit_t, zit_l, zit_s, zR1, zr1, zR2, zr2, zgN, zAsg, zgT, zgsC, zgsN, zApp, zap0, zap, zLc, zclr, zclr2, zbck, zkeep_d, zkeep_n, zDP, zdp0, zdp, zky_i, zky_s, xSorted, xNe_bb, zPop, zpopk, zExt, zextk, zextk2, xUpper, xInW, xIxW, xLt_ss, xLe_ss, xGt_ss, xSl_t, xSl_l, xSl_s, zlNil, zlCons, zpin_d, zpin_l, zpin_k, zpin_b, zlkL0, zlkL1, zCallL, zimm_d, zimm_l, zimm_k, zimm_i, zimm_s, zimm_b, zimm_n, zimm_t, zimm_0, zimm_1, zSortSet, xInS_t, xInS_l, List.length_cons, List.length_nil, List.nil_append, List.append_nil, List.cons_append, true_and, and_true, reduceIte, if_true, if_false, decide_eq_true_eq, Bool.not_true, Bool.not_false, Bool.not_eq_true, Bool.false_eq_true, Nat.reduceAdd, Nat.zero_add, Bool.not_eq_false, decide_false, decide_true, Bool.not_eq_eq_eq_not, Bool.true_eq, decide_not, Bool.not_not, decide_eq_false_iff_not, eq_self]
  refine ⟨by decide, words_loop (fun ls y3 ol => ?_) words xs _ nm_words hp.1 (fun x hx => (hp.2.2.2 x hx).nm) hp.2.2.1 (by have := hp.2.1; simp [words]; omega)⟩
  simp only [xEq_ii, xEq_ss, xEq_nn, xEq_bb, xEq_ni, xEq_in, xNe_ii, xNe_ss, xLt_ii, xGt_ii, xLe_ii, xGe_ii, xAdd_ii, xAdd_ss, xAdd_tt, xAdd_ll, xSub_ii, xMul_ii, xDiv_ii, xMod_ii, xPow_ii, xNeg_i, xInt_i, xInt_b, xLen_t, xLen_l, xLen_s, xLen_d, xTuple_l, xTuple_t, xList_l, xList_t, xIx_t, xIx_l, xIx_s, xIx_di, xIx_ds, at0, at1, at2, at3, at4, at5, at6, at7, xIs_nn, xIs_i, xIs_s, xIs_b, xIs_t, xIs_l, xIs_d, xIsB_n, xIsB_i, xIsB_s, xIsB_b, yInt_i, yInt_b, yInt_n, yInt_s, yInt_t, yInt_l, yBool_i, yBool_b, yBool_n, yBool_s, yBool_t, yBool_l, yStr_i, yStr_b, yStr_n, yStr_s, yStr_t, yStr_l, yTup_i, yTup_b, yTup_n, yTup_s, yTup_t, yTup_l, yLst_i, yLst_n, yLst_s, yLst_t, yLst_l, xIn_it, xIn_il, xIn_sd, xLt_pp, xGt_pp, xLe_pp, xGe_pp, xII, z0, z1, z2, zput0, zput1, zC, zV, zv_d, zv_l, zv_k, zOp, zUn, zlk_d, zlk_l, zlk_k, zlk_b, zls_d, zls_l, zls_k, zfz_d, zfz_l, zfz_k, zfz_b, zfr_l, zfr_k, zfr_d, ztB, zbk, ztT, ztr_b, ztr_i, ztr_n, ztr_t, ztr_l, ztr_s, ztAnd, ztOr, ztNot, zeAnd, zeOr, zeNot, zeIf, zaNil, zaCons, zTup, zLst, zCB, zCall, zCallK, zfdn, zDicK, zpNone, zpSome, zpsk, zSl, zChain, zchk, zSeq, zsNil, zBreak, zCont, zIf, zSet, zs_d, zs_l, zs_k, zs_b, zRet, zr_d, zr_l, zr_k, zr_b, zRetN, zDrop, zFor, ziE, zit_t, zit_l, zit_s, zR1, zr1, zR2, zr2, zgN, zAsg, zgT, zgsC, zgsN, zApp, zap0, zap, zLc, zclr, zclr2, zbck, zkeep_d, zkeep_n, zDP, zdp0, zdp, zky_i, zky_s, xSorted, xNe_bb, zPop, zpopk, zExt, zextk, zextk2, xUpper, xInW, xIxW, xLt_ss, xLe_ss, xGt_ss, xSl_t, xSl_l, xSl_s, zlNil, zlCons, zpin_d, zpin_l, zpin_k, zpin_b, zlkL0, zlkL1, zCallL, zimm_d, zimm_l, zimm_k, zimm_i, zimm_s, zimm_b, zimm_n, zimm_t, zimm_0, zimm_1, zSortSet, xInS_t, xInS_l, List.length_cons, List.length_nil, List.nil_append, List.append_nil, List.cons_append, true_and, and_true, reduceIte, if_true, if_false, decide_eq_true_eq, Bool.not_true, Bool.not_false, Bool.not_eq_true, Bool.false_eq_true, Nat.reduceAdd, Nat.zero_add, Bool.not_eq_false, decide_false, decide_true, Bool.not_eq_eq_eq_not, Bool.true_eq, decide_not, Bool.not_not, decide_eq_false_iff_not, eq_self]
  refine pool_ok (m := 5) (by decide) (by decide) fun us hu => ?_
  have fu := hu.2.1
  have big : 1000 < sizeLine := by decide
  have lt1 : (ls.take 1).length ≤ 1 := by rw [List.length_take]; omega
  simp only [xEq_ii, xEq_ss, xEq_nn, xEq_bb, xEq_ni, xEq_in, xNe_ii, xNe_ss, xLt_ii, xGt_ii, xLe_ii, xGe_ii, xAdd_ii, xAdd_ss, xAdd_tt, xAdd_ll, xSub_ii, xMul_ii, xDiv_ii, xMod_ii, xPow_ii, xNeg_i, xInt_i, xInt_b, xLen_t, xLen_l, xLen_s, xLen_d, xTuple_l, xTuple_t, xList_l, xList_t, xIx_t, xIx_l, xIx_s, xIx_di, xIx_ds, at0, at1, at2, at3, at4, at5, at6, at7, xIs_nn, xIs_i, xIs_s, xIs_b, xIs_t, xIs_l, xIs_d, xIsB_n, xIsB_i, xIsB_s, xIsB_b, yInt_i, yInt_b, yInt_n, yInt_s, yInt_t, yInt_l, yBool_i, yBool_b, yBool_n, yBool_s, yBool_t, yBool_l, yStr_i, yStr_b, yStr_n, yStr_s, yStr_t, yStr_l, yTup_i, yTup_b, yTup_n, yTup_s, yTup_t, yTup_l, yLst_i, yLst_n, yLst_s, yLst_t, yLst_l, xIn_it, xIn_il, xIn_sd, xLt_pp, xGt_pp, xLe_pp, xGe_pp, xII, z0, z1, z2, zput0, zput1, zC, zV, zv_d, zv_l, zv_k, zOp, zUn, zlk_d, zlk_l, zlk_k, zlk_b, zls_d, zls_l, zls_k, zfz_d, zfz_l, zfz_k, zfz_b, zfr_l, zfr_k, zfr_d, ztB, zbk, ztT, ztr_b, ztr_i, ztr_n, ztr_t, ztr_l, ztr_s, ztAnd, ztOr, ztNot, zeAnd, zeOr, zeNot, zeIf, zaNil, zaCons, zTup, zLst, zCB, zCall, zCallK, zfdn, zDicK, zpNone, zpSome, zpsk, zSl, zChain, zchk, zSeq, zsNil, zBreak, zCont, zIf, zSet, zs_d, zs_l, zs_k, zs_b, zRet, zr_d, zr_l, zr_k, zr_b, zRetN, zDrop, zFor, ziE, zit_t, zit_l, zit_s, zR1, zr1, zR2, zr2, zgN, zAsg, zgT, zgsC, zgsN, zApp, zap0, zap, zLc, zclr, zclr2, zbck, zkeep_d, zkeep_n, zDP, zdp0, zdp, zky_i, zky_s, xSorted, xNe_bb, zPop, zpopk, zExt, zextk, zextk2, xUpper, xInW, xIxW, xLt_ss, xLe_ss, xGt_ss, xSl_t, xSl_l, xSl_s, zlNil, zlCons, zpin_d, zpin_l, zpin_k, zpin_b, zlkL0, zlkL1, zCallL, zimm_d, zimm_l, zimm_k, zimm_i, zimm_s, zimm_b, zimm_n, zimm_t, zimm_0, zimm_1, zSortSet, xInS_t, xInS_l, List.length_cons, List.length_nil, List.nil_append, List.append_nil, List.cons_append, true_and, and_true, reduceIte, if_true, if_false, decide_eq_true_eq, Bool.not_true, Bool.not_false, Bool.not_eq_true, Bool.false_eq_true, Nat.reduceAdd, Nat.zero_add, Bool.not_eq_false, decide_false, decide_true, Bool.not_eq_eq_eq_not, Bool.true_eq, decide_not, Bool.not_not, decide_eq_false_iff_not, eq_self, cut1, List.length_map]
  refine ⟨by omega, ?_⟩
  rw [← List.map_append]
  simp only [xEq_ii, xEq_ss, xEq_nn, xEq_bb, xEq_ni, xEq_in, xNe_ii, xNe_ss, xLt_ii, xGt_ii, xLe_ii, xGe_ii, xAdd_ii, xAdd_ss, xAdd_tt, xAdd_ll, xSub_ii, xMul_ii, xDiv_ii, xMod_ii, xPow_ii, xNeg_i, xInt_i, xInt_b, xLen_t, xLen_l, xLen_s, xLen_d, xTuple_l, xTuple_t, xList_l, xList_t, xIx_t, xIx_l, xIx_s, xIx_di, xIx_ds, at0, at1, at2, at3, at4, at5, at6, at7, xIs_nn, xIs_i, xIs_s, xIs_b, xIs_t, xIs_l, xIs_d, xIsB_n, xIsB_i, xIsB_s, xIsB_b, yInt_i, yInt_b, yInt_n, yInt_s, yInt_t, yInt_l, yBool_i, yBool_b, yBool_n, yBool_s, yBool_t, yBool_l, yStr_i, yStr_b, yStr_n, yStr_s, yStr_t, yStr_l, yTup_i, yTup_b, yTup_n, yTup_s, yTup_t, yTup_l, yLst_i, yLst_n, yLst_s, yLst_t, yLst_l, xIn_it, xIn_il, xIn_sd, xLt_pp, xGt_pp, xLe_pp, xGe_pp, xII, z0, z1, z2, zput0, zput1, zC, zV, zv_d, zv_l, zv_k, zOp, zUn, zlk_d, zlk_l, zlk_k, zlk_b, zls_d, zls_l, zls_k, zfz_d, zfz_l, zfz_k, zfz_b, zfr_l, zfr_k, zfr_d, ztB, zbk, ztT, ztr_b, ztr_i, ztr_n, ztr_t, ztr_l, ztr_s, ztAnd, ztOr, ztNot, zeAnd, zeOr, zeNot, zeIf, zaNil, zaCons, zTup, zLst, zCB, zCall, zCallK, zfdn, zDicK, zpNone, zpSome, zpsk, zSl, zChain, zchk, zSeq, zsNil, zBreak, zCont, zIf, zSet, zs_d, zs_l, zs_k, zs_b, zRet, zr_d, zr_l, zr_k, zr_b, zRetN, zDrop, zFor, ziE, zit_t, zit_l, zit_s, zR1, zr1, zR2, zr2, zgN, zAsg, zgT, zgsC, zgsN, zApp, zap0, zap, zLc, zclr, zclr2, zbck, zkeep_d, zkeep_n, zDP, zdp0, zdp, zky_i, zky_s, xSorted, xNe_bb, zPop, zpopk, zExt, zextk, zextk2, xUpper, xInW, xIxW, xLt_ss, xLe_ss, xGt_ss, xSl_t, xSl_l, xSl_s, zlNil, zlCons, zpin_d, zpin_l, zpin_k, zpin_b, zlkL0, zlkL1, zCallL, zimm_d, zimm_l, zimm_k, zimm_i, zimm_s, zimm_b, zimm_n, zimm_t, zimm_0, zimm_1, zSortSet, xInS_t, xInS_l, List.length_cons, List.length_nil, List.nil_append, List.append_nil, List.cons_append, true_and, and_true, reduceIte, if_true, if_false, decide_eq_true_eq, Bool.not_true, Bool.not_false, Bool.not_eq_true, Bool.false_eq_true, Nat.reduceAdd, Nat.zero_add, Bool.not_eq_false, decide_false, decide_true, Bool.not_eq_eq_eq_not, Bool.true_eq, decide_not, Bool.not_not, decide_eq_false_iff_not, eq_self, zSortSet, List.length_append]
  refine ⟨by omega, fun ys n1 n2 => ?_⟩
  have ov : Ls (sortS ys) := by
    have sub : ∀ x ∈ ys, x ∈ us ++ ls.take 1 := fun x hx => (n2 x).mp hx
    refine ⟨fun e => ?_, fun x hx => ?_, (List.mergeSort_perm _ _).nodup_iff.mpr n1, ?_⟩
    · have := sortS_len (xs := ys)
      rw [e] at this
      have e2 : ys = [] := List.eq_nil_of_length_eq_zero (by simpa using this.symm)
      obtain ⟨a, l, rfl⟩ := List.exists_cons_of_ne_nil hu.1
      have : a ∈ ys := (n2 a).mpr (by simp)
      rw [e2] at this
      cases this
    · rcases List.mem_append.mp (sub x (sortS_mem.mp hx)) with q | q
      · exact (hu.2.2.2 x q).nm
      · exact ol.nm x (List.mem_of_mem_take q)
    · rw [sortS_len]
      have := List.Nodup.length_le_of_subset n1 sub
      rw [List.length_append] at this
      omega
  refine ⟨⟨by decide, by decide⟩, rows_lc ?hh ol ov (fun rows y4 e4 hr lr => ?_) _ [] _ (.inl rfl) (fun _ z => nomatch z) (by decide)⟩
  case hh => rfl
  simp only [xEq_ii, xEq_ss, xEq_nn, xEq_bb, xEq_ni, xEq_in, xNe_ii, xNe_ss, xLt_ii, xGt_ii, xLe_ii, xGe_ii, xAdd_ii, xAdd_ss, xAdd_tt, xAdd_ll, xSub_ii, xMul_ii, xDiv_ii, xMod_ii, xPow_ii, xNeg_i, xInt_i, xInt_b, xLen_t, xLen_l, xLen_s, xLen_d, xTuple_l, xTuple_t, xList_l, xList_t, xIx_t, xIx_l, xIx_s, xIx_di, xIx_ds, at0, at1, at2, at3, at4, at5, at6, at7, xIs_nn, xIs_i, xIs_s, xIs_b, xIs_t, xIs_l, xIs_d, xIsB_n, xIsB_i, xIsB_s, xIsB_b, yInt_i, yInt_b, yInt_n, yInt_s, yInt_t, yInt_l, yBool_i, yBool_b, yBool_n, yBool_s, yBool_t, yBool_l, yStr_i, yStr_b, yStr_n, yStr_s, yStr_t, yStr_l, yTup_i, yTup_b, yTup_n, yTup_s, yTup_t, yTup_l, yLst_i, yLst_n, yLst_s, yLst_t, yLst_l, xIn_it, xIn_il, xIn_sd, xLt_pp, xGt_pp, xLe_pp, xGe_pp, xII, z0, z1, z2, zput0, zput1, zC, zV, zv_d, zv_l, zv_k, zOp, zUn, zlk_d, zlk_l, zlk_k, zlk_b, zls_d, zls_l, zls_k, zfz_d, zfz_l, zfz_k, zfz_b, zfr_l, zfr_k, zfr_d, ztB, zbk, ztT, ztr_b, ztr_i, ztr_n, ztr_t, ztr_l, ztr_s, ztAnd, ztOr, ztNot, zeAnd, zeOr, zeNot, zeIf, zaNil, zaCons, zTup, zLst, zCB, zCall, zCallK, zfdn, zDicK, zpNone, zpSome, zpsk, zSl, zChain, zchk, zSeq, zsNil, zBreak, zCont, zIf, zSet, zs_d, zs_l, zs_k, zs_b, zRet, zr_d, zr_l, zr_k, zr_b, zRetN, zDrop, zFor, ziE, zit_t, zit_l, zit_s, zR1, zr1, zR2, zr2, zgN, zAsg, zgT, zgsC, zgsN, zApp, zap0, zap, zLc, zclr, zclr2, zbck, zkeep_d, zkeep_n, zDP, zdp0, zdp, zky_i, zky_s, xSorted, xNe_bb, zPop, zpopk, zExt, zextk, zextk2, xUpper, xInW, xIxW, xLt_ss, xLe_ss, xGt_ss, xSl_t, xSl_l, xSl_s, zlNil, zlCons, zpin_d, zpin_l, zpin_k, zpin_b, zlkL0, zlkL1, zCallL, zimm_d, zimm_l, zimm_k, zimm_i, zimm_s, zimm_b, zimm_n, zimm_t, zimm_0, zimm_1, zSortSet, xInS_t, xInS_l, List.length_cons, List.length_nil, List.nil_append, List.append_nil, List.cons_append, true_and, and_true, reduceIte, if_true, if_false, decide_eq_true_eq, Bool.not_true, Bool.not_false, Bool.not_eq_true, Bool.false_eq_true, Nat.reduceAdd, Nat.zero_add, Bool.not_eq_false, decide_false, decide_true, Bool.not_eq_eq_eq_not, Bool.true_eq, decide_not, Bool.not_not, decide_eq_false_iff_not, eq_self, List.length_map]
  refine ⟨by decide, by decide, by omega, ?_⟩
  rw [show [D.tup []] = [([] : List Pr)].map serD from rfl, ← List.map_append]
  refine ⟨⟨by decide, by decide⟩, sel_loop ol ov (rows := rows ++ [[]]) (fun p hp => ?_) (fun _ _ _ _ _ _ _ _ => ?_) _ _ _ _ _ _ _ _ _ e4 (.inl rfl)⟩
  · rcases List.mem_append.mp hp with hp | hp
    · exact hr p hp
    · rw [List.mem_singleton.mp hp]
      exact ⟨(fun _ z => nomatch z), List.Pairwise.nil, by decide⟩
  · rfl
end K04
namespace K04
open PySem PySem.Spec PyProof.Rows L2 DL
def topS (i : Nat) : Stmt := PySem.Challenge.pw_stillanswered_k04_fits.main.body.getD i (.Pass ⟨0, 0, 0, 0⟩)
abbrev s_is_name : Stmt := topS 7
theorem sc_is_name : FnScope ["value", "sign"] ["value"] (defScope s_is_name) := ⟨rfl, rfl, rfl, by decide +kernel, rfl, by decide +kernel, by decide +kernel⟩
abbrev s_is_ascending : Stmt := topS 8
theorem sc_is_ascending : FnScope ["values", "at"] ["values"] (defScope s_is_ascending) := ⟨rfl, rfl, rfl, by decide +kernel, rfl, by decide +kernel, by decide +kernel⟩
abbrev s_is_row_of_names : Stmt := topS 9
theorem sc_is_row_of_names : FnScope ["value", "name"] ["value"] (defScope s_is_row_of_names) := ⟨rfl, rfl, rfl, by decide +kernel, rfl, by decide +kernel, by decide +kernel⟩
abbrev s_is_pair_of_names : Stmt := topS 19
theorem sc_is_pair_of_names : FnScope ["value"] ["value"] (defScope s_is_pair_of_names) := ⟨rfl, rfl, rfl, by decide +kernel, rfl, by decide +kernel, by decide +kernel⟩
abbrev s_is_series : Stmt := topS 20
theorem sc_is_series : FnScope ["value", "ahead", "pair"] ["value"] (defScope s_is_series) := ⟨rfl, rfl, rfl, by decide +kernel, rfl, by decide +kernel, by decide +kernel⟩
abbrev s_inner_selectors : Stmt := topS 21
theorem sc_inner_selectors : FnScope ["selector", "word"] ["selector"] (defScope s_inner_selectors) := ⟨rfl, rfl, rfl, by decide +kernel, rfl, by decide +kernel, by decide +kernel⟩
abbrev s_is_part : Stmt := topS 22
theorem sc_is_part : FnScope ["value", "word"] ["value"] (defScope s_is_part) := ⟨rfl, rfl, rfl, by decide +kernel, rfl, by decide +kernel, by decide +kernel⟩
abbrev s_is_selector : Stmt := topS 23
theorem sc_is_selector : FnScope ["value", "waiting", "parts", "part"] ["value"] (defScope s_is_selector) := ⟨rfl, rfl, rfl, by decide +kernel, rfl, by decide +kernel, by decide +kernel⟩
abbrev s_check_series : Stmt := topS 25
theorem sc_check_series : FnScope ["series"] ["series"] (defScope s_check_series) := ⟨rfl, rfl, rfl, by decide +kernel, rfl, by decide +kernel, by decide +kernel⟩
abbrev s_check_selector : Stmt := topS 26
theorem sc_check_selector : FnScope ["selector"] ["selector"] (defScope s_check_selector) := ⟨rfl, rfl, rfl, by decide +kernel, rfl, by decide +kernel, by decide +kernel⟩
abbrev s_holds : Stmt := topS 27
theorem sc_holds : FnScope ["labels", "selector", "word"] ["labels", "selector"] (defScope s_holds) := ⟨rfl, rfl, rfl, by decide +kernel, rfl, by decide +kernel, by decide +kernel⟩
abbrev s_labels_of : Stmt := topS 28
theorem sc_labels_of : FnScope ["series", "labels", "label", "value"] ["series"] (defScope s_labels_of) := ⟨rfl, rfl, rfl, by decide +kernel, rfl, by decide +kernel, by decide +kernel⟩
abbrev s_fits : Stmt := topS 29
theorem sc_fits : FnScope ["series", "selector"] ["series", "selector"] (defScope s_fits) := ⟨rfl, rfl, rfl, by decide +kernel, rfl, by decide +kernel, by decide +kernel⟩
abbrev s_p_law_dealer : Stmt := topS 31
theorem sc_p_law_dealer : FnScope ["script", "cell"] ["script"] (defScope s_p_law_dealer) := ⟨rfl, rfl, rfl, by decide +kernel, rfl, by decide +kernel, by decide +kernel⟩
abbrev s_p_law_deal : Stmt := topS 32
theorem sc_p_law_deal : FnScope ["dealer", "many", "cell", "digit"] ["dealer", "many"] (defScope s_p_law_deal) := ⟨rfl, rfl, rfl, by decide +kernel, rfl, by decide +kernel, by decide +kernel⟩
abbrev s_p_law_one : Stmt := topS 33
theorem sc_p_law_one : FnScope ["dealer", "row"] ["dealer", "row"] (defScope s_p_law_one) := ⟨rfl, rfl, rfl, by decide +kernel, rfl, by decide +kernel, by decide +kernel⟩
abbrev s_p_law_name : Stmt := topS 34
theorem sc_p_law_name : FnScope ["dealer", "low", "signs", "text", "k"] ["dealer"] (defScope s_p_law_name) := ⟨rfl, rfl, rfl, by decide +kernel, rfl, by decide +kernel, by decide +kernel⟩
abbrev s_p_law_kin : Stmt := topS 35
theorem sc_p_law_kin : FnScope ["dealer", "name", "low", "sign", "at"] ["dealer", "name"] (defScope s_p_law_kin) := ⟨rfl, rfl, rfl, by decide +kernel, rfl, by decide +kernel, by decide +kernel⟩
abbrev s_p_law_pool : Stmt := topS 36
theorem sc_p_law_pool : FnScope ["dealer", "many", "pool", "k", "name"] ["dealer", "many"] (defScope s_p_law_pool) := ⟨rfl, rfl, rfl, by decide +kernel, rfl, by decide +kernel, by decide +kernel⟩
abbrev s_p_law_values : Stmt := topS 37
theorem sc_p_law_values : FnScope ["dealer", "values", "many", "start", "k"] ["dealer", "values"] (defScope s_p_law_values) := ⟨rfl, rfl, rfl, by decide +kernel, rfl, by decide +kernel, by decide +kernel⟩
abbrev s_p_law_leaf : Stmt := topS 38
theorem sc_p_law_leaf : FnScope ["dealer", "labels", "values", "what"] ["dealer", "labels", "values"] (defScope s_p_law_leaf) := ⟨rfl, rfl, rfl, by decide +kernel, rfl, by decide +kernel, by decide +kernel⟩
abbrev s_p_law_selector : Stmt := topS 39
theorem sc_p_law_selector : FnScope ["dealer", "parts", "labels", "values", "many", "first"] ["dealer", "parts", "labels", "values"] (defScope s_p_law_selector) := ⟨rfl, rfl, rfl, by decide +kernel, rfl, by decide +kernel, by decide +kernel⟩
abbrev s_p_law_fits : Stmt := topS 40
theorem sc_p_law_fits : FnScope ["series", "selector", "word", "pair"] ["series", "selector"] (defScope s_p_law_fits) := ⟨rfl, rfl, rfl, by decide +kernel, rfl, by decide +kernel, by decide +kernel⟩
abbrev s_p_law_series : Stmt := topS 41
theorem sc_p_law_series : FnScope ["dealer", "labels", "values", "rows", "label"] ["dealer", "labels", "values"] (defScope s_p_law_series) := ⟨rfl, rfl, rfl, by decide +kernel, rfl, by decide +kernel, by decide +kernel⟩
abbrev s_law : Stmt := topS 42
theorem sc_law : FnScope ["script", "dealer", "labels", "word", "values", "rows", "k", "parts", "selector", "series", "due", "told"] ["script"] (defScope s_law) := ⟨rfl, rfl, rfl, by decide +kernel, rfl, by decide +kernel, by decide +kernel⟩
structure Txt (K : PySem.W.Frag) (w : World) (mg : Str → Option Value) where
  is_name_a : Addr
  is_name_fd : FuncData
  is_name_F : Fun K "is_name" "is_name" s_is_name is_name_a is_name_fd
  is_name_m : mg "is_name" = some (.ref is_name_a)
  is_ascending_a : Addr
  is_ascending_fd : FuncData
  is_ascending_F : Fun K "is_ascending" "is_ascending" s_is_ascending is_ascending_a is_ascending_fd
  is_ascending_m : mg "is_ascending" = some (.ref is_ascending_a)
  is_row_of_names_a : Addr
  is_row_of_names_fd : FuncData
  is_row_of_names_F : Fun K "is_row_of_names" "is_row_of_names" s_is_row_of_names is_row_of_names_a is_row_of_names_fd
  is_row_of_names_m : mg "is_row_of_names" = some (.ref is_row_of_names_a)
  is_pair_of_names_a : Addr
  is_pair_of_names_fd : FuncData
  is_pair_of_names_F : Fun K "is_pair_of_names" "is_pair_of_names" s_is_pair_of_names is_pair_of_names_a is_pair_of_names_fd
  is_pair_of_names_m : mg "is_pair_of_names" = some (.ref is_pair_of_names_a)
  is_series_a : Addr
  is_series_fd : FuncData
  is_series_F : Fun K "is_series" "is_series" s_is_series is_series_a is_series_fd
  is_series_m : mg "is_series" = some (.ref is_series_a)
  inner_selectors_a : Addr
  inner_selectors_fd : FuncData
  inner_selectors_F : Fun K "inner_selectors" "inner_selectors" s_inner_selectors inner_selectors_a inner_selectors_fd
  inner_selectors_m : mg "inner_selectors" = some (.ref inner_selectors_a)
  is_part_a : Addr
  is_part_fd : FuncData
  is_part_F : Fun K "is_part" "is_part" s_is_part is_part_a is_part_fd
  is_part_m : mg "is_part" = some (.ref is_part_a)
  is_selector_a : Addr
  is_selector_fd : FuncData
  is_selector_F : Fun K "is_selector" "is_selector" s_is_selector is_selector_a is_selector_fd
  is_selector_m : mg "is_selector" = some (.ref is_selector_a)
  check_series_a : Addr
  check_series_fd : FuncData
  check_series_F : Fun K "check_series" "check_series" s_check_series check_series_a check_series_fd
  check_series_m : mg "check_series" = some (.ref check_series_a)
  check_selector_a : Addr
  check_selector_fd : FuncData
  check_selector_F : Fun K "check_selector" "check_selector" s_check_selector check_selector_a check_selector_fd
  check_selector_m : mg "check_selector" = some (.ref check_selector_a)
  holds_a : Addr
  holds_fd : FuncData
  holds_F : Fun K "holds" "holds" s_holds holds_a holds_fd
  holds_m : mg "holds" = some (.ref holds_a)
  labels_of_a : Addr
  labels_of_fd : FuncData
  labels_of_F : Fun K "labels_of" "labels_of" s_labels_of labels_of_a labels_of_fd
  labels_of_m : mg "labels_of" = some (.ref labels_of_a)
  fits_a : Addr
  fits_fd : FuncData
  fits_F : Fun K "fits" "fits" s_fits fits_a fits_fd
  fits_m : mg "fits" = some (.ref fits_a)
  p_law_dealer_a : Addr
  p_law_dealer_fd : FuncData
  p_law_dealer_F : Fun K "_law_dealer" "_law_dealer" s_p_law_dealer p_law_dealer_a p_law_dealer_fd
  p_law_dealer_m : mg "_law_dealer" = some (.ref p_law_dealer_a)
  p_law_deal_a : Addr
  p_law_deal_fd : FuncData
  p_law_deal_F : Fun K "_law_deal" "_law_deal" s_p_law_deal p_law_deal_a p_law_deal_fd
  p_law_deal_m : mg "_law_deal" = some (.ref p_law_deal_a)
  p_law_one_a : Addr
  p_law_one_fd : FuncData
  p_law_one_F : Fun K "_law_one" "_law_one" s_p_law_one p_law_one_a p_law_one_fd
  p_law_one_m : mg "_law_one" = some (.ref p_law_one_a)
  p_law_name_a : Addr
  p_law_name_fd : FuncData
  p_law_name_F : Fun K "_law_name" "_law_name" s_p_law_name p_law_name_a p_law_name_fd
  p_law_name_m : mg "_law_name" = some (.ref p_law_name_a)
  p_law_kin_a : Addr
  p_law_kin_fd : FuncData
  p_law_kin_F : Fun K "_law_kin" "_law_kin" s_p_law_kin p_law_kin_a p_law_kin_fd
  p_law_kin_m : mg "_law_kin" = some (.ref p_law_kin_a)
  p_law_pool_a : Addr
  p_law_pool_fd : FuncData
  p_law_pool_F : Fun K "_law_pool" "_law_pool" s_p_law_pool p_law_pool_a p_law_pool_fd
  p_law_pool_m : mg "_law_pool" = some (.ref p_law_pool_a)
  p_law_values_a : Addr
  p_law_values_fd : FuncData
  p_law_values_F : Fun K "_law_values" "_law_values" s_p_law_values p_law_values_a p_law_values_fd
  p_law_values_m : mg "_law_values" = some (.ref p_law_values_a)
  p_law_leaf_a : Addr
  p_law_leaf_fd : FuncData
  p_law_leaf_F : Fun K "_law_leaf" "_law_leaf" s_p_law_leaf p_law_leaf_a p_law_leaf_fd
  p_law_leaf_m : mg "_law_leaf" = some (.ref p_law_leaf_a)
  p_law_selector_a : Addr
  p_law_selector_fd : FuncData
  p_law_selector_F : Fun K "_law_selector" "_law_selector" s_p_law_selector p_law_selector_a p_law_selector_fd
  p_law_selector_m : mg "_law_selector" = some (.ref p_law_selector_a)
  p_law_fits_a : Addr
  p_law_fits_fd : FuncData
  p_law_fits_F : Fun K "_law_fits" "_law_fits" s_p_law_fits p_law_fits_a p_law_fits_fd
  p_law_fits_m : mg "_law_fits" = some (.ref p_law_fits_a)
  p_law_series_a : Addr
  p_law_series_fd : FuncData
  p_law_series_F : Fun K "_law_series" "_law_series" s_p_law_series p_law_series_a p_law_series_fd
  p_law_series_m : mg "_law_series" = some (.ref p_law_series_a)
  law_a : Addr
  law_fd : FuncData
  law_F : Fun K "law" "law" s_law law_a law_fd
  law_m : mg "law" = some (.ref law_a)
  b_bool : mg "bool" = none
  b_int : mg "int" = none
  b_isinstance : mg "isinstance" = none
  b_len : mg "len" = none
  b_range : mg "range" = none
  b_set : mg "set" = none
  b_sorted : mg "sorted" = none
  b_str : mg "str" = none
  b_tuple : mg "tuple" = none
  AND_t : Tok
  c_AND : mg "AND" = some (.str "and" AND_t)
  ANY_t : Tok
  c_ANY : mg "ANY" = some (.str "any" ANY_t)
  HAS_t : Tok
  c_HAS : mg "HAS" = some (.str "has" HAS_t)
  IS_t : Tok
  c_IS : mg "IS" = some (.str "is" IS_t)
  LENGTHS_a : Addr
  c_LENGTHS : mg "LENGTHS" = some (.ref LENGTHS_a)
  w_LENGTHS : WDic K w LENGTHS_a [("any", 1), ("is", 3), ("has", 2), ("not", 2), ("and", 3), ("or", 3)]
  MOST_PARTS_t : Tok
  c_MOST_PARTS : mg "MOST_PARTS" = some (.int 60 MOST_PARTS_t)
  NAME_SIGNS_t : Tok
  c_NAME_SIGNS : mg "NAME_SIGNS" = some (.str "abcdefghijklmnopqrstuvwxyzABCDEFGHIJKLMNOPQRSTUVWXYZ0123456789_" NAME_SIGNS_t)
  NOT_t : Tok
  c_NOT : mg "NOT" = some (.str "not" NOT_t)
  OR_t : Tok
  c_OR : mg "OR" = some (.str "or" OR_t)
  SMALL_t : Tok
  c_SMALL : mg "SMALL" = some (.str "abcdefghijklmnopqrstuvwxyz" SMALL_t)
theorem Txt.is_name_b {K : PySem.W.Frag} {w : World} {mg : Str → Option Value} (T : Txt K w mg) : Binds K T.is_name_fd ["value"] [] := T.is_name_F.binds fun _ _ _ _ _ _ us hl => match us, hl with | [_], _ => rfl
theorem Txt.is_ascending_b {K : PySem.W.Frag} {w : World} {mg : Str → Option Value} (T : Txt K w mg) : Binds K T.is_ascending_fd ["values"] [] := T.is_ascending_F.binds fun _ _ _ _ _ _ us hl => match us, hl with | [_], _ => rfl
theorem Txt.is_row_of_names_b {K : PySem.W.Frag} {w : World} {mg : Str → Option Value} (T : Txt K w mg) : Binds K T.is_row_of_names_fd ["value"] [] := T.is_row_of_names_F.binds fun _ _ _ _ _ _ us hl => match us, hl with | [_], _ => rfl
theorem Txt.is_pair_of_names_b {K : PySem.W.Frag} {w : World} {mg : Str → Option Value} (T : Txt K w mg) : Binds K T.is_pair_of_names_fd ["value"] [] := T.is_pair_of_names_F.binds fun _ _ _ _ _ _ us hl => match us, hl with | [_], _ => rfl
theorem Txt.is_series_b {K : PySem.W.Frag} {w : World} {mg : Str → Option Value} (T : Txt K w mg) : Binds K T.is_series_fd ["value"] [] := T.is_series_F.binds fun _ _ _ _ _ _ us hl => match us, hl with | [_], _ => rfl
theorem Txt.inner_selectors_b {K : PySem.W.Frag} {w : World} {mg : Str → Option Value} (T : Txt K w mg) : Binds K T.inner_selectors_fd ["selector"] [] := T.inner_selectors_F.binds fun _ _ _ _ _ _ us hl => match us, hl with | [_], _ => rfl
theorem Txt.is_part_b {K : PySem.W.Frag} {w : World} {mg : Str → Option Value} (T : Txt K w mg) : Binds K T.is_part_fd ["value"] [] := T.is_part_F.binds fun _ _ _ _ _ _ us hl => match us, hl with | [_], _ => rfl
theorem Txt.is_selector_b {K : PySem.W.Frag} {w : World} {mg : Str → Option Value} (T : Txt K w mg) : Binds K T.is_selector_fd ["value"] [] := T.is_selector_F.binds fun _ _ _ _ _ _ us hl => match us, hl with | [_], _ => rfl
theorem Txt.check_series_b {K : PySem.W.Frag} {w : World} {mg : Str → Option Value} (T : Txt K w mg) : Binds K T.check_series_fd ["series"] [] := T.check_series_F.binds fun _ _ _ _ _ _ us hl => match us, hl with | [_], _ => rfl
theorem Txt.check_selector_b {K : PySem.W.Frag} {w : World} {mg : Str → Option Value} (T : Txt K w mg) : Binds K T.check_selector_fd ["selector"] [] := T.check_selector_F.binds fun _ _ _ _ _ _ us hl => match us, hl with | [_], _ => rfl
theorem Txt.holds_b {K : PySem.W.Frag} {w : World} {mg : Str → Option Value} (T : Txt K w mg) : Binds K T.holds_fd ["labels", "selector"] [] := T.holds_F.binds fun _ _ _ _ _ _ us hl => match us, hl with | [_, _], _ => rfl
theorem Txt.labels_of_b {K : PySem.W.Frag} {w : World} {mg : Str → Option Value} (T : Txt K w mg) : Binds K T.labels_of_fd ["series"] [] := T.labels_of_F.binds fun _ _ _ _ _ _ us hl => match us, hl with | [_], _ => rfl
theorem Txt.fits_b {K : PySem.W.Frag} {w : World} {mg : Str → Option Value} (T : Txt K w mg) : Binds K T.fits_fd ["series", "selector"] [] := T.fits_F.binds fun _ _ _ _ _ _ us hl => match us, hl with | [_, _], _ => rfl
theorem Txt.p_law_dealer_b {K : PySem.W.Frag} {w : World} {mg : Str → Option Value} (T : Txt K w mg) : Binds K T.p_law_dealer_fd ["script"] [] := T.p_law_dealer_F.binds fun _ _ _ _ _ _ us hl => match us, hl with | [_], _ => rfl
theorem Txt.p_law_deal_b {K : PySem.W.Frag} {w : World} {mg : Str → Option Value} (T : Txt K w mg) : Binds K T.p_law_deal_fd ["dealer", "many"] [] := T.p_law_deal_F.binds fun _ _ _ _ _ _ us hl => match us, hl with | [_, _], _ => rfl
theorem Txt.p_law_one_b {K : PySem.W.Frag} {w : World} {mg : Str → Option Value} (T : Txt K w mg) : Binds K T.p_law_one_fd ["dealer", "row"] [] := T.p_law_one_F.binds fun _ _ _ _ _ _ us hl => match us, hl with | [_, _], _ => rfl
theorem Txt.p_law_name_b {K : PySem.W.Frag} {w : World} {mg : Str → Option Value} (T : Txt K w mg) : Binds K T.p_law_name_fd ["dealer"] [] := T.p_law_name_F.binds fun _ _ _ _ _ _ us hl => match us, hl with | [_], _ => rfl
theorem Txt.p_law_kin_b {K : PySem.W.Frag} {w : World} {mg : Str → Option Value} (T : Txt K w mg) : Binds K T.p_law_kin_fd ["dealer", "name"] [] := T.p_law_kin_F.binds fun _ _ _ _ _ _ us hl => match us, hl with | [_, _], _ => rfl
theorem Txt.p_law_pool_b {K : PySem.W.Frag} {w : World} {mg : Str → Option Value} (T : Txt K w mg) : Binds K T.p_law_pool_fd ["dealer", "many"] [] := T.p_law_pool_F.binds fun _ _ _ _ _ _ us hl => match us, hl with | [_, _], _ => rfl
theorem Txt.p_law_values_b {K : PySem.W.Frag} {w : World} {mg : Str → Option Value} (T : Txt K w mg) : Binds K T.p_law_values_fd ["dealer", "values"] [] := T.p_law_values_F.binds fun _ _ _ _ _ _ us hl => match us, hl with | [_, _], _ => rfl
theorem Txt.p_law_leaf_b {K : PySem.W.Frag} {w : World} {mg : Str → Option Value} (T : Txt K w mg) : Binds K T.p_law_leaf_fd ["dealer", "labels", "values"] [] := T.p_law_leaf_F.binds fun _ _ _ _ _ _ us hl => match us, hl with | [_, _, _], _ => rfl
theorem Txt.p_law_selector_b {K : PySem.W.Frag} {w : World} {mg : Str → Option Value} (T : Txt K w mg) : Binds K T.p_law_selector_fd ["dealer", "parts", "labels", "values"] [] := T.p_law_selector_F.binds fun _ _ _ _ _ _ us hl => match us, hl with | [_, _, _, _], _ => rfl
theorem Txt.p_law_fits_b {K : PySem.W.Frag} {w : World} {mg : Str → Option Value} (T : Txt K w mg) : Binds K T.p_law_fits_fd ["series", "selector"] [] := T.p_law_fits_F.binds fun _ _ _ _ _ _ us hl => match us, hl with | [_, _], _ => rfl
theorem Txt.p_law_series_b {K : PySem.W.Frag} {w : World} {mg : Str → Option Value} (T : Txt K w mg) : Binds K T.p_law_series_fd ["dealer", "labels", "values"] [] := T.p_law_series_F.binds fun _ _ _ _ _ _ us hl => match us, hl with | [_, _, _], _ => rfl
theorem Txt.law_b {K : PySem.W.Frag} {w : World} {mg : Str → Option Value} (T : Txt K w mg) : Binds K T.law_fd ["script"] [] := T.law_F.binds fun _ _ _ _ _ _ us hl => match us, hl with | [_], _ => rfl
section
variable {P : Program} {w : World} {K : PySem.W.Frag} {mg : Str → Option Value} {base : Heap}
theorem ok_is_name (T : Txt K w mg) : FnOk P w K mg base CX0 1 T.is_name_a T.is_name_fd ["value"] (spD K 1 fn_is_name) := by
  refine fn_ok (k := 0) (N := ["value", "sign"]) T.is_name_F sc_is_name fun cdv A outer s H hr => ?_
  have hu := hr.units
  exact ds_cons (ds_if ((dw_or (dt_not (dt_tru (cs_isi hf_str rfl (by rfl) T.b_isinstance (de_v (pv 0)) (pe_bltn (by rfl) T.b_str (by decide +kernel) rfl)))) (dw_or1 (dt_not (dt_tru (de_v (pv 0)))))).pt) (ds_one (ds_ret (de_bl))) (ds_nil))
      (ds_cons (ds_if (dt_cmp (opr_notin hu) (by first | exact nobehind _ (by decide) (by decide) | rfl) os_in (de_ix (ixr hu) (fun _ _ => rfl) os_ix (de_v (pv 0)) (de_int)) (de_c (v := .str "abcdefghijklmnopqrstuvwxyz") (d := .str "abcdefghijklmnopqrstuvwxyz") (pe_glob (by rfl) T.c_SMALL ⟨_, rfl⟩) fun _ => rfl)) (ds_one (ds_ret (de_bl))) (ds_nil))
      (ds_cons (ds_for PassesOwn.never rfl (di_e (de_v (pv 0))) (dg_n (i := 1) sc_is_name.nd rfl (by first | exact .inl rfl | exact .inr rfl)) (ds_one (ds_if (dt_cmp (opr_notin hu) (by first | exact nobehind _ (by decide) (by decide) | rfl) os_in (de_v (pv 1)) (de_c (v := .str "abcdefghijklmnopqrstuvwxyzABCDEFGHIJKLMNOPQRSTUVWXYZ0123456789_") (d := .str "abcdefghijklmnopqrstuvwxyzABCDEFGHIJKLMNOPQRSTUVWXYZ0123456789_") (pe_glob (by rfl) T.c_NAME_SIGNS ⟨_, rfl⟩) fun _ => rfl)) (ds_one (ds_ret (de_bl))) (ds_nil))))
      (ds_one (ds_ret (de_bl)))))
theorem ok_is_ascending (T : Txt K w mg) : FnOk P w K mg base CX0 1 T.is_ascending_a T.is_ascending_fd ["values"] (spD K 1 fn_is_ascending) := by
  refine fn_ok (k := 0) (N := ["values", "at"]) T.is_ascending_F sc_is_ascending fun cdv A outer s H hr => ?_
  have hu := hr.units
  exact ds_cons (ds_for PassesOwn.never rfl (di_r2 (by rfl) T.b_range (da_cons (de_int) (da_cons (de_c1 cr_len cs_len (by rfl) T.b_len PySem.boot_len (de_v (pv 0))) (da_nil)))) (dg_n (i := 1) sc_is_ascending.nd rfl (by first | exact .inl rfl | exact .inr rfl)) (ds_one (ds_if (dt_not (dt_cmp (opr_lt hu) (by first | exact nobehind _ (by decide) (by decide) | rfl) os_lt (de_ix (ixr hu) (fun _ _ => rfl) os_ix (de_v (pv 0)) (de_op op_sub os_sub (de_v (pv 1)) (de_int))) (de_ix (ixr hu) (fun _ _ => rfl) os_ix (de_v (pv 0)) (de_v (pv 1))))) (ds_one (ds_ret (de_bl))) (ds_nil))))
      (ds_one (ds_ret (de_bl)))
theorem ok_is_row_of_names (T : Txt K w mg) : FnOk P w K mg base CX0 2 T.is_row_of_names_a T.is_row_of_names_fd ["value"] (spD K 1 fn_is_row_of_names) := by
  refine fn_ok (k := 1) (N := ["value", "name"]) T.is_row_of_names_F sc_is_row_of_names fun cdv A outer s H hr => ?_
  have hu := hr.units
  exact ds_cons (ds_if ((dw_or (dt_not (dt_tru (cs_isi hf_tuple rfl (by rfl) T.b_isinstance (de_v (pv 0)) (pe_bltn (by rfl) T.b_tuple (by decide +kernel) rfl)))) (dw_or1 (dt_not (dt_tru (de_v (pv 0)))))).pt) (ds_one (ds_ret (de_bl))) (ds_nil))
      (ds_cons (ds_for PassesOwn.never rfl (di_e (de_v (pv 0))) (dg_n (i := 1) sc_is_row_of_names.nd rfl (by first | exact .inl rfl | exact .inr rfl)) (ds_one (ds_if (dt_not (dt_tru (de_call (ds0 := []) (ok_is_name T) (hr.mono (by decide)) (by rfl) T.is_name_m T.is_name_F.kp T.is_name_b .nil (fun _ => rfl) (da_cons (de_v (pv 1)) (da_nil))))) (ds_one (ds_ret (de_bl))) (ds_nil))))
      (ds_one (ds_ret (de_call (ds0 := []) (ok_is_ascending T) (hr.mono (by decide)) (by rfl) T.is_ascending_m T.is_ascending_F.kp T.is_ascending_b .nil (fun _ => rfl) (da_cons (de_v (pv 0)) (da_nil))))))
theorem ok_is_pair_of_names (T : Txt K w mg) : FnOk P w K mg base CX0 2 T.is_pair_of_names_a T.is_pair_of_names_fd ["value"] (spD K 1 fn_is_pair_of_names) := by
  refine fn_ok (k := 1) (N := ["value"]) T.is_pair_of_names_F sc_is_pair_of_names fun cdv A outer s H hr => ?_
  have hu := hr.units
  exact ds_cons (ds_if ((dw_or (dt_not (dt_tru (cs_isi hf_tuple rfl (by rfl) T.b_isinstance (de_v (pv 0)) (pe_bltn (by rfl) T.b_tuple (by decide +kernel) rfl)))) (dw_or1 (dt_cmp (opr_ne hu) (by first | exact nobehind _ (by decide) (by decide) | rfl) os_ne (de_c1 cr_len cs_len (by rfl) T.b_len PySem.boot_len (de_v (pv 0))) (de_int)))).pt) (ds_one (ds_ret (de_bl))) (ds_nil))
      (ds_one (ds_ret (de_and (de_call (ds0 := []) (ok_is_name T) (hr.mono (by decide)) (by rfl) T.is_name_m T.is_name_F.kp T.is_name_b .nil (fun _ => rfl) (da_cons (de_ix (ixr hu) (fun _ _ => rfl) os_ix (de_v (pv 0)) (de_int)) (da_nil))) (de_one (de_call (ds0 := []) (ok_is_name T) (hr.mono (by decide)) (by rfl) T.is_name_m T.is_name_F.kp T.is_name_b .nil (fun _ => rfl) (da_cons (de_ix (ixr hu) (fun _ _ => rfl) os_ix (de_v (pv 0)) (de_int)) (da_nil)))))))
theorem ok_is_series (T : Txt K w mg) : FnOk P w K mg base CX0 3 T.is_series_a T.is_series_fd ["value"] (spD K 1 fn_is_series) := by
  refine fn_ok (k := 2) (N := ["value", "ahead", "pair"]) T.is_series_F sc_is_series fun cdv A outer s H hr => ?_
  have hu := hr.units
  exact ds_cons (ds_if (dt_not (dt_tru (cs_isi hf_tuple rfl (by rfl) T.b_isinstance (de_v (pv 0)) (pe_bltn (by rfl) T.b_tuple (by decide +kernel) rfl)))) (ds_one (ds_ret (de_bl))) (ds_nil))
      (ds_cons (ds_set (i := 1) sc_is_series.nd rfl (by first | exact .inl rfl | exact .inr rfl) (de_non))
      (ds_cons (ds_for PassesOwn.never rfl (di_e (de_v (pv 0))) (dg_n (i := 2) sc_is_series.nd rfl (by first | exact .inl rfl | exact .inr rfl)) (ds_cons (ds_if (dt_not (dt_tru (de_call (ds0 := []) (ok_is_pair_of_names T) (hr.mono (by decide)) (by rfl) T.is_pair_of_names_m T.is_pair_of_names_F.kp T.is_pair_of_names_b .nil (fun _ => rfl) (da_cons (de_v (pv 2)) (da_nil))))) (ds_one (ds_ret (de_bl))) (ds_nil))
      (ds_cons (ds_if ((dw_and (dt_cmp op_notN (by first | exact nobehind _ (by decide) (by decide) | rfl) os_isnot (de_v (pv 1)) (de_non)) (dw_and1 (dt_cmp (opr_le hu) (by first | exact nobehind _ (by decide) (by decide) | rfl) os_le (de_ix (ixr hu) (fun _ _ => rfl) os_ix (de_v (pv 2)) (de_int)) (de_v (pv 1))))).pt) (ds_one (ds_ret (de_bl))) (ds_nil))
      (ds_one (ds_set (i := 1) sc_is_series.nd rfl (by first | exact .inl rfl | exact .inr rfl) (de_ix (ixr hu) (fun _ _ => rfl) os_ix (de_v (pv 2)) (de_int)))))))
      (ds_one (ds_ret (de_bl)))))
theorem ok_inner_selectors (T : Txt K w mg) : FnOk P w K mg base CX0 1 T.inner_selectors_a T.inner_selectors_fd ["selector"] (spD K 1 fn_inner_selectors) := by
  refine fn_ok (k := 0) (N := ["selector", "word"]) T.inner_selectors_F sc_inner_selectors fun cdv A outer s H hr => ?_
  have hu := hr.units
  exact ds_cons (ds_set (i := 1) sc_inner_selectors.nd rfl (by first | exact .inl rfl | exact .inr rfl) (de_ix (ixr hu) (fun _ _ => rfl) os_ix (de_v (pv 0)) (de_int)))
      (ds_cons (ds_if (dt_cmp (opr_eq hu) (by first | exact nobehind _ (by decide) (by decide) | rfl) os_eq (de_v (pv 1)) (de_c (v := .str "not") (d := .str "not") (pe_glob (by rfl) T.c_NOT ⟨_, rfl⟩) fun _ => rfl)) (ds_one (ds_ret (de_lst (da_cons (de_ix (ixr hu) (fun _ _ => rfl) os_ix (de_v (pv 0)) (de_int)) (da_nil))))) (ds_nil))
      (ds_cons (ds_if ((dw_or (dt_cmp (opr_eq hu) (by first | exact nobehind _ (by decide) (by decide) | rfl) os_eq (de_v (pv 1)) (de_c (v := .str "and") (d := .str "and") (pe_glob (by rfl) T.c_AND ⟨_, rfl⟩) fun _ => rfl)) (dw_or1 (dt_cmp (opr_eq hu) (by first | exact nobehind _ (by decide) (by decide) | rfl) os_eq (de_v (pv 1)) (de_c (v := .str "or") (d := .str "or") (pe_glob (by rfl) T.c_OR ⟨_, rfl⟩) fun _ => rfl)))).pt) (ds_one (ds_ret (de_lst (da_cons (de_ix (ixr hu) (fun _ _ => rfl) os_ix (de_v (pv 0)) (de_int)) (da_cons (de_ix (ixr hu) (fun _ _ => rfl) os_ix (de_v (pv 0)) (de_int)) (da_nil)))))) (ds_nil))
      (ds_one (ds_ret (de_lst (da_nil))))))
theorem ok_is_part (T : Txt K w mg) : FnOk P w K mg base CX0 3 T.is_part_a T.is_part_fd ["value"] (spD K 1 fn_is_part) := by
  refine fn_ok (k := 2) (N := ["value", "word"]) T.is_part_F sc_is_part fun cdv A outer s H hr => ?_
  have hu := hr.units
  exact ds_cons (ds_if ((dw_or (dt_not (dt_tru (cs_isi hf_tuple rfl (by rfl) T.b_isinstance (de_v (pv 0)) (pe_bltn (by rfl) T.b_tuple (by decide +kernel) rfl)))) (dw_or1 (dt_not (dt_tru (de_v (pv 0)))))).pt) (ds_one (ds_ret (de_bl))) (ds_nil))
      (ds_cons (ds_set (i := 1) sc_is_part.nd rfl (by first | exact .inl rfl | exact .inr rfl) (de_ix (ixr hu) (fun _ _ => rfl) os_ix (de_v (pv 0)) (de_int)))
      (ds_cons (ds_if ((dw_or (dt_not (dt_tru (cs_isi hf_str rfl (by rfl) T.b_isinstance (de_v (pv 1)) (pe_bltn (by rfl) T.b_str (by decide +kernel) rfl)))) (dw_or1 (dt_ninW T.w_LENGTHS (de_v (pv 1)) (pe_glob (v := .ref T.LENGTHS_a) (by rfl) T.c_LENGTHS rfl) (by first | exact nobehind _ (by decide) (by decide) | rfl)))).pt) (ds_one (ds_ret (de_bl))) (ds_nil))
      (ds_cons (ds_if (dt_cmp (opr_ne hu) (by first | exact nobehind _ (by decide) (by decide) | rfl) os_ne (de_c1 cr_len cs_len (by rfl) T.b_len PySem.boot_len (de_v (pv 0))) (de_ixW T.w_LENGTHS (de_v (pv 1)) (pe_glob (v := .ref T.LENGTHS_a) (by rfl) T.c_LENGTHS rfl) (fun _ _ => rfl))) (ds_one (ds_ret (de_bl))) (ds_nil))
      (ds_cons (ds_if (dt_cmp (opr_eq hu) (by first | exact nobehind _ (by decide) (by decide) | rfl) os_eq (de_v (pv 1)) (de_c (v := .str "is") (d := .str "is") (pe_glob (by rfl) T.c_IS ⟨_, rfl⟩) fun _ => rfl)) (ds_one (ds_ret (de_and (de_call (ds0 := []) (ok_is_name T) (hr.mono (by decide)) (by rfl) T.is_name_m T.is_name_F.kp T.is_name_b .nil (fun _ => rfl) (da_cons (de_ix (ixr hu) (fun _ _ => rfl) os_ix (de_v (pv 0)) (de_int)) (da_nil))) (de_one (de_call (ds0 := []) (ok_is_row_of_names T) (hr.mono (by decide)) (by rfl) T.is_row_of_names_m T.is_row_of_names_F.kp T.is_row_of_names_b .nil (fun _ => rfl) (da_cons (de_ix (ixr hu) (fun _ _ => rfl) os_ix (de_v (pv 0)) (de_int)) (da_nil))))))) (ds_nil))
      (ds_cons (ds_if (dt_cmp (opr_eq hu) (by first | exact nobehind _ (by decide) (by decide) | rfl) os_eq (de_v (pv 1)) (de_c (v := .str "has") (d := .str "has") (pe_glob (by rfl) T.c_HAS ⟨_, rfl⟩) fun _ => rfl)) (ds_one (ds_ret (de_call (ds0 := []) (ok_is_name T) (hr.mono (by decide)) (by rfl) T.is_name_m T.is_name_F.kp T.is_name_b .nil (fun _ => rfl) (da_cons (de_ix (ixr hu) (fun _ _ => rfl) os_ix (de_v (pv 0)) (de_int)) (da_nil))))) (ds_nil))
      (ds_one (ds_ret (de_bl))))))))
theorem ok_is_selector (T : Txt K w mg) : FnOk P w K mg base CX0 4 T.is_selector_a T.is_selector_fd ["value"] (spD K 1 fn_is_selector) := by
  refine fn_ok (k := 3) (N := ["value", "waiting", "parts", "part"]) T.is_selector_F sc_is_selector fun cdv A outer s H hr => ?_
  have hu := hr.units
  exact ds_cons (ds_set (i := 1) sc_is_selector.nd rfl (by first | exact .inl rfl | exact .inr rfl) (de_lst (da_cons (de_v (pv 0)) (da_nil))))
      (ds_cons (ds_set (i := 2) sc_is_selector.nd rfl (by first | exact .inl rfl | exact .inr rfl) (de_int))
      (ds_cons (ds_while PassesOwn.never (dt_tru (de_v (pv 1))) (ds_cons (ds_set (i := 3) sc_is_selector.nd rfl (by first | exact .inl rfl | exact .inr rfl) (de_pop (pv 1)))
      (ds_cons (ds_set (i := 2) sc_is_selector.nd rfl (by first | exact .inl rfl | exact .inr rfl) (de_op opr_add os_add (de_v (pv 2)) (de_int)))
      (ds_cons (ds_if ((dw_or (dt_cmp (opr_gt hu) (by first | exact nobehind _ (by decide) (by decide) | rfl) os_gt (de_v (pv 2)) (de_c (v := .int 60) (d := .int 60) (pe_glob (by rfl) T.c_MOST_PARTS ⟨_, rfl⟩) fun _ => rfl)) (dw_or1 (dt_not (dt_tru (de_call (ds0 := []) (ok_is_part T) (hr.mono (by decide)) (by rfl) T.is_part_m T.is_part_F.kp T.is_part_b .nil (fun _ => rfl) (da_cons (de_v (pv 3)) (da_nil))))))).pt) (ds_one (ds_ret (de_bl))) (ds_nil))
      (ds_one (ds_ext (i := 1) (pv 1) (de_call (ds0 := []) (ok_inner_selectors T) (hr.mono (by decide)) (by rfl) T.inner_selectors_m T.inner_selectors_F.kp T.inner_selectors_b .nil (fun _ => rfl) (da_cons (de_v (pv 3)) (da_nil)))))))))
      (ds_one (ds_ret (de_bl)))))
theorem ok_check_series (T : Txt K w mg) : FnOk P w K mg base CX0 4 T.check_series_a T.check_series_fd ["series"] (spD K 1 fn_check_series) := by
  refine fn_ok (k := 3) (N := ["series"]) T.check_series_F sc_check_series fun cdv A outer s H hr => ?_
  have hu := hr.units
  exact ds_one (ds_if (dt_not (dt_tru (de_call (ds0 := []) (ok_is_series T) (hr.mono (by decide)) (by rfl) T.is_series_m T.is_series_F.kp T.is_series_b .nil (fun _ => rfl) (da_cons (de_v (pv 0)) (da_nil))))) (ds_one (ds_never)) (ds_nil))
theorem ok_check_selector (T : Txt K w mg) : FnOk P w K mg base CX0 5 T.check_selector_a T.check_selector_fd ["selector"] (spD K 1 fn_check_selector) := by
  refine fn_ok (k := 4) (N := ["selector"]) T.check_selector_F sc_check_selector fun cdv A outer s H hr => ?_
  have hu := hr.units
  exact ds_one (ds_if (dt_not (dt_tru (de_call (ds0 := []) (ok_is_selector T) (hr.mono (by decide)) (by rfl) T.is_selector_m T.is_selector_F.kp T.is_selector_b .nil (fun _ => rfl) (da_cons (de_v (pv 0)) (da_nil))))) (ds_one (ds_never)) (ds_nil))
theorem ok_holds (T : Txt K w mg) : ∀ n, FnOk P w K mg base CX0 (1 + n) T.holds_a T.holds_fd ["labels", "selector"] (spD K 2 (fn_holds n))
  | 0 => fn_false
  | n + 1 => by
    have ih := ok_holds T n
    refine fn_ok (k := 1 + n) (N := ["labels", "selector", "word"]) T.holds_F sc_holds fun cdv A outer s H hr => ?_
    have hu := hr.units
    exact ds_cons (ds_set (i := 2) sc_holds.nd rfl (by first | exact .inl rfl | exact .inr rfl) (de_ix (ixr hu) (fun _ _ => rfl) os_ix (de_v (pv 1)) (de_int)))
      (ds_cons (ds_if (dt_cmp (opr_eq hu) (by first | exact nobehind _ (by decide) (by decide) | rfl) os_eq (de_v (pv 2)) (de_c (v := .str "any") (d := .str "any") (pe_glob (by rfl) T.c_ANY ⟨_, rfl⟩) fun _ => rfl)) (ds_one (ds_ret (de_bl))) (ds_nil))
      (ds_cons (ds_if (dt_cmp (opr_eq hu) (by first | exact nobehind _ (by decide) (by decide) | rfl) os_eq (de_v (pv 2)) (de_c (v := .str "has") (d := .str "has") (pe_glob (by rfl) T.c_HAS ⟨_, rfl⟩) fun _ => rfl)) (ds_one (ds_ret (de_cmp (opr_in hu) (by first | exact nobehind _ (by decide) (by decide) | rfl) os_in (de_ix (ixr hu) (fun _ _ => rfl) os_ix (de_v (pv 1)) (de_int)) (de_v (pv 0))))) (ds_nil))
      (ds_cons (ds_if (dt_cmp (opr_eq hu) (by first | exact nobehind _ (by decide) (by decide) | rfl) os_eq (de_v (pv 2)) (de_c (v := .str "is") (d := .str "is") (pe_glob (by rfl) T.c_IS ⟨_, rfl⟩) fun _ => rfl)) (ds_one (ds_ret (de_and (de_cmp (opr_in hu) (by first | exact nobehind _ (by decide) (by decide) | rfl) os_in (de_ix (ixr hu) (fun _ _ => rfl) os_ix (de_v (pv 1)) (de_int)) (de_v (pv 0))) (de_one (de_cmp (opr_in hu) (by first | exact nobehind _ (by decide) (by decide) | rfl) os_in (de_ix (ixr hu) (fun _ _ => rfl) os_ix (de_v (pv 0)) (de_ix (ixr hu) (fun _ _ => rfl) os_ix (de_v (pv 1)) (de_int))) (de_ix (ixr hu) (fun _ _ => rfl) os_ix (de_v (pv 1)) (de_int))))))) (ds_nil))
      (ds_cons (ds_if (dt_cmp (opr_eq hu) (by first | exact nobehind _ (by decide) (by decide) | rfl) os_eq (de_v (pv 2)) (de_c (v := .str "not") (d := .str "not") (pe_glob (by rfl) T.c_NOT ⟨_, rfl⟩) fun _ => rfl)) (ds_one (ds_ret (de_not (de_call (ds0 := []) (ih) (hr.mono (by omega)) (by rfl) T.holds_m T.holds_F.kp T.holds_b .nil (fun _ => rfl) (da_cons (de_v (pv 0)) (da_cons (de_ix (ixr hu) (fun _ _ => rfl) os_ix (de_v (pv 1)) (de_int)) (da_nil))))))) (ds_nil))
      (ds_cons (ds_if (dt_cmp (opr_eq hu) (by first | exact nobehind _ (by decide) (by decide) | rfl) os_eq (de_v (pv 2)) (de_c (v := .str "and") (d := .str "and") (pe_glob (by rfl) T.c_AND ⟨_, rfl⟩) fun _ => rfl)) (ds_one (ds_ret (de_and (de_call (ds0 := []) (ih) (hr.mono (by omega)) (by rfl) T.holds_m T.holds_F.kp T.holds_b .nil (fun _ => rfl) (da_cons (de_v (pv 0)) (da_cons (de_ix (ixr hu) (fun _ _ => rfl) os_ix (de_v (pv 1)) (de_int)) (da_nil)))) (de_one (de_call (ds0 := []) (ih) (hr.mono (by omega)) (by rfl) T.holds_m T.holds_F.kp T.holds_b .nil (fun _ => rfl) (da_cons (de_v (pv 0)) (da_cons (de_ix (ixr hu) (fun _ _ => rfl) os_ix (de_v (pv 1)) (de_int)) (da_nil)))))))) (ds_nil))
      (ds_one (ds_ret (de_or (de_call (ds0 := []) (ih) (hr.mono (by omega)) (by rfl) T.holds_m T.holds_F.kp T.holds_b .nil (fun _ => rfl) (da_cons (de_v (pv 0)) (da_cons (de_ix (ixr hu) (fun _ _ => rfl) os_ix (de_v (pv 1)) (de_int)) (da_nil)))) (de_one (de_call (ds0 := []) (ih) (hr.mono (by omega)) (by rfl) T.holds_m T.holds_F.kp T.holds_b .nil (fun _ => rfl) (da_cons (de_v (pv 0)) (da_cons (de_ix (ixr hu) (fun _ _ => rfl) os_ix (de_v (pv 1)) (de_int)) (da_nil)))))))))))))
theorem ok_labels_of (T : Txt K w mg) : FnOk P w K mg base CX0 1 T.labels_of_a T.labels_of_fd ["series"] (spD K 1 fn_labels_of) := by
  refine fn_ok (k := 0) (N := ["series", "labels", "label", "value"]) T.labels_of_F sc_labels_of fun cdv A outer s H hr => ?_
  have hu := hr.units
  exact ds_cons (ds_set (i := 1) sc_labels_of.nd rfl (by first | exact .inl rfl | exact .inr rfl) (de_dnew))
      (ds_cons (ds_for PassesOwn.never rfl (di_e (de_v (pv 0))) (dg_t rfl (dgs_cons (dg_n (i := 2) sc_labels_of.nd rfl (by first | exact .inl rfl | exact .inr rfl)) (dgs_cons (dg_n (i := 3) sc_labels_of.nd rfl (by first | exact .inl rfl | exact .inr rfl)) (dgs_nil)))) (ds_one (ds_dput (i := 1) hu (pv 1) (de_v (pv 2)) (de_v (pv 3)))))
      (ds_one (ds_ret (de_v (pv 1)))))
theorem ok_fits (T : Txt K w mg) : FnOk P w K mg base CX0 72 T.fits_a T.fits_fd ["series", "selector"] (spD K 2 fn_fits) := by
  refine fn_ok (k := 71) (N := ["series", "selector"]) T.fits_F sc_fits fun cdv A outer s H hr => ?_
  have hu := hr.units
  exact ds_cons (ds_expr (de_call (ds0 := []) (ok_check_series T) (hr.mono (by decide)) (by rfl) T.check_series_m T.check_series_F.kp T.check_series_b .nil (fun _ => rfl) (da_cons (de_v (pv 0)) (da_nil))))
      (ds_cons (ds_expr (de_call (ds0 := []) (ok_check_selector T) (hr.mono (by decide)) (by rfl) T.check_selector_m T.check_selector_F.kp T.check_selector_b .nil (fun _ => rfl) (da_cons (de_v (pv 1)) (da_nil))))
      (ds_one (ds_ret (de_call (ds0 := []) (ok_holds T 70) (hr.mono (by decide)) (by rfl) T.holds_m T.holds_F.kp T.holds_b .nil (fun _ => rfl) (da_cons (de_call (ds0 := []) (ok_labels_of T) (hr.mono (by decide)) (by rfl) T.labels_of_m T.labels_of_F.kp T.labels_of_b .nil (fun _ => rfl) (da_cons (de_v (pv 0)) (da_nil))) (da_cons (de_v (pv 1)) (da_nil)))))))
theorem ok0_p_law_dealer (T : Txt K w mg) : FnOk P w K mg base CX0 1 T.p_law_dealer_a T.p_law_dealer_fd ["script"] (spD K 1 fn0_p_law_dealer) := by
  refine fn_ok (k := 0) (N := ["script", "cell"]) T.p_law_dealer_F sc_p_law_dealer fun cdv A outer s H hr => ?_
  have hu := hr.units
  exact ds_one (ds_ret (de_lst (da_cons (de_lc (own := [("cell", 1)]) rfl sc_p_law_dealer.nd (di_e (de_sl (de_v (pv 0)) (dp_none) (dp_some (de_int)))) (blkOk_by (own := [("cell", 1)]) (N := ["script", "cell"]) (sc := defScope s_p_law_dealer) (by decide +kernel)) keep_n (by decide) (fun _ _ _ _ _ => dg_n (i := 1) sc_p_law_dealer.nd rfl (by first | exact .inl rfl | exact .inr rfl)) (fun _ _ _ _ _ => dts_nil) (fun _ _ _ _ _ => de_c1t call_int1 cs_int (by rfl) T.b_int (by decide +kernel) (de_v (pv 1)))) (da_cons (de_int) (da_cons (de_int) (da_cons (de_int) (da_nil)))))))
theorem ok_p_law_dealer (T : Txt K w mg) : FnOk P w K mg base CX0 1 T.p_law_dealer_a T.p_law_dealer_fd ["script"] (spD K 1 fn_p_law_dealer) := dealer_view (n := 1) (ok0_p_law_dealer T) dealer_h0
theorem ok_p_law_deal (T : Txt K w mg) : FnOk P w K mg base CX0 1 T.p_law_deal_a T.p_law_deal_fd ["dealer", "many"] (spD K 2 fn_p_law_deal) := by
  have D : ∀ {X : Cx} {e i : Expr} {te ti : TE} {p : Pos}, PlainIx i → PE X e te → PE X i ti → PE X (.Subscript e i p) (tOp (rIx X.K) te ti) := fun hp a b => pe_ix ix_seq a b hp
  refine deal_view (T.p_law_deal_F.ok (k := 0) (N := ["dealer", "many", "cell", "digit"]) sc_p_law_deal (fun vs H Q E h => ?_) fun cdv A outer s H vs Q E hr hsp => ⟨tDealT K, ?_, deal_reads hsp _ rfl⟩)
  · obtain ⟨a, c, ns, m, p, g, x, rfl, _⟩ := h
    rfl
  · have hN := sc_p_law_deal.nd
    refine pss_cons (ps_if (pw_and (pt_cmpR op_eq (D (fun _ _ => rfl) (pv 0) pe_int) pe_int (by first | exact nobehind _ (by decide) (by decide) | rfl)) (pw_and1 (pt_cmpR op_lt (D (fun _ _ => rfl) (pv 0) pe_int) (pe_callB cr_len (by rfl) T.b_len PySem.boot_len (pa_cons (D (fun _ _ => rfl) (pv 0) pe_int) pa_nil rfl)) (by first | exact nobehind _ (by decide) (by decide) | rfl))) ).pt ?A pss_nil) (pss_cons (ps_if (pt_cmpR op_gt (D (fun _ _ => rfl) (pv 0) pe_int) pe_int (by first | exact nobehind _ (by decide) (by decide) | rfl)) ?B pss_nil) (pss_cons ?C (pss_one ?E)))
    case A => exact pss_cons (ps_set (i := 2) hN rfl (by first | exact .inl rfl | exact .inr rfl) (D (fun _ _ => rfl) (D (fun _ _ => rfl) (pv 0) pe_int) (D (fun _ _ => rfl) (pv 0) pe_int))) (pss_cons (ps_asg (pe_op op_add (D (fun _ _ => rfl) (pv 0) pe_int) pe_int) (pg_sub (pv 0) pe_int set_list)) (pss_one (ps_if (pt_cmpR op_ge (pv 2) (pe_op op_pow pe_int pe_int) (by first | exact nobehind _ (by decide) (by decide) | rfl)) (pss_one (ps_asg (pv 2) (pg_sub (pv 0) pe_int set_list)))
      (pss_one (ps_asg (pe_op op_mod (pe_callTy call_int1 (by rfl) T.b_int (by decide +kernel) (pa_cons (pe_op op_add (pe_op op_add (pe_op op_mul (D (fun _ _ => rfl) (pv 0) pe_int) pe_int) (pe_op op_mul (pv 2) pe_int)) pe_int) pa_nil rfl)) pe_int) (pg_sub (pv 0) pe_int set_list))))))
    case B => exact pss_cons (ps_set (i := 3) hN rfl (by first | exact .inl rfl | exact .inr rfl) (pe_op op_mod (pe_callTy call_int1 (by rfl) T.b_int (by decide +kernel) (pa_cons (D (fun _ _ => rfl) (pv 0) pe_int) pa_nil rfl)) (pv 1))) (pss_cons (ps_asg (pe_op op_fdiv (D (fun _ _ => rfl) (pv 0) pe_int) (pv 1)) (pg_sub (pv 0) pe_int set_list)) (pss_one (ps_ret (pv 3))))
    case C => exact ps_asg (pe_op op_mod (pe_callTy call_int1 (by rfl) T.b_int (by decide +kernel) (pa_cons (pe_op op_add (pe_op op_mul (D (fun _ _ => rfl) (pv 0) pe_int) pe_int) pe_int) pa_nil rfl)) pe_int) (pg_sub (pv 0) pe_int set_list)
    case E => exact ps_ret (pe_op op_mod (pe_callTy call_int1 (by rfl) T.b_int (by decide +kernel) (pa_cons (pe_op op_fdiv (pe_op op_mod (pe_callTy call_int1 (by rfl) T.b_int (by decide +kernel) (pa_cons (pe_op op_mul (D (fun _ _ => rfl) (pv 0) pe_int) pe_int) pa_nil rfl)) pe_int) pe_int) pa_nil rfl)) (pv 1))
theorem ok_p_law_one (T : Txt K w mg) : FnOk P w K mg base CX0 2 T.p_law_one_a T.p_law_one_fd ["dealer", "row"] (spD K 2 fn_p_law_one) := by
  refine fn_ok (k := 1) (N := ["dealer", "row"]) T.p_law_one_F sc_p_law_one fun cdv A outer s H hr => ?_
  have hu := hr.units
  exact ds_one (ds_ret (de_ix (ixr hu) (fun _ _ => rfl) os_ix (de_v (pv 1)) (de_call (ds0 := []) (ok_p_law_deal T) (hr.mono (by decide)) (by rfl) T.p_law_deal_m T.p_law_deal_F.kp T.p_law_deal_b .nil (fun _ => rfl) (da_cons (de_v (pv 0)) (da_cons (de_c1 cr_len cs_len (by rfl) T.b_len PySem.boot_len (de_v (pv 1))) (da_nil))))))
theorem ok_p_law_name (T : Txt K w mg) : FnOk P w K mg base CX0 3 T.p_law_name_a T.p_law_name_fd ["dealer"] (spD K 1 fn_p_law_name) := by
  refine fn_ok (k := 2) (N := ["dealer", "low", "signs", "text", "k"]) T.p_law_name_F sc_p_law_name fun cdv A outer s H hr => ?_
  have hu := hr.units
  exact ds_cons (ds_set (i := 1) sc_p_law_name.nd rfl (by first | exact .inl rfl | exact .inr rfl) (de_str))
      (ds_cons (ds_set (i := 2) sc_p_law_name.nd rfl (by first | exact .inl rfl | exact .inr rfl) (de_op opr_add os_add (de_op opr_add os_add (de_v (pv 1)) (de_upper (de_v (pv 1)))) (de_str)))
      (ds_cons (ds_set (i := 3) sc_p_law_name.nd rfl (by first | exact .inl rfl | exact .inr rfl) (de_ix (ixr hu) (fun _ _ => rfl) os_ix (de_v (pv 1)) (de_call (ds0 := []) (ok_p_law_deal T) (hr.mono (by decide)) (by rfl) T.p_law_deal_m T.p_law_deal_F.kp T.p_law_deal_b .nil (fun _ => rfl) (da_cons (de_v (pv 0)) (da_cons (de_int) (da_nil))))))
      (ds_cons (ds_for PassesOwn.never rfl (di_r1 (by rfl) T.b_range (da_cons (de_call (ds0 := []) (ok_p_law_one T) (hr.mono (by decide)) (by rfl) T.p_law_one_m T.p_law_one_F.kp T.p_law_one_b .nil (fun _ => rfl) (da_cons (de_v (pv 0)) (da_cons (de_tup (da_cons (de_int) (da_cons (de_int) (da_cons (de_int) (da_cons (de_int) (da_cons (de_int) (da_cons (de_int) (da_cons (de_int) (da_nil))))))))) (da_nil)))) (da_nil))) (dg_n (i := 4) sc_p_law_name.nd rfl (by first | exact .inl rfl | exact .inr rfl)) (ds_one (ds_set (i := 3) sc_p_law_name.nd rfl (by first | exact .inl rfl | exact .inr rfl) (de_op opr_add os_add (de_v (pv 3)) (de_ix (ixr hu) (fun _ _ => rfl) os_ix (de_v (pv 2)) (de_call (ds0 := []) (ok_p_law_deal T) (hr.mono (by decide)) (by rfl) T.p_law_deal_m T.p_law_deal_F.kp T.p_law_deal_b .nil (fun _ => rfl) (da_cons (de_v (pv 0)) (da_cons (de_int) (da_nil)))))))))
      (ds_one (ds_ret (de_v (pv 3)))))))
theorem ok_p_law_kin (T : Txt K w mg) : FnOk P w K mg base CX0 2 T.p_law_kin_a T.p_law_kin_fd ["dealer", "name"] (spD K 2 fn_p_law_kin) := by
  refine fn_ok (k := 1) (N := ["dealer", "name", "low", "sign", "at"]) T.p_law_kin_F sc_p_law_kin fun cdv A outer s H hr => ?_
  have hu := hr.units
  exact ds_cons (ds_set (i := 2) sc_p_law_kin.nd rfl (by first | exact .inl rfl | exact .inr rfl) (de_str))
      (ds_cons (ds_set (i := 3) sc_p_law_kin.nd rfl (by first | exact .inl rfl | exact .inr rfl) (de_ix (ixr hu) (fun _ _ => rfl) os_ix (de_op opr_add os_add (de_op opr_add os_add (de_v (pv 2)) (de_upper (de_v (pv 2)))) (de_str)) (de_call (ds0 := []) (ok_p_law_deal T) (hr.mono (by decide)) (by rfl) T.p_law_deal_m T.p_law_deal_F.kp T.p_law_deal_b .nil (fun _ => rfl) (da_cons (de_v (pv 0)) (da_cons (de_int) (da_nil))))))
      (ds_cons (ds_set (i := 4) sc_p_law_kin.nd rfl (by first | exact .inl rfl | exact .inr rfl) (de_op opr_add os_add (de_int) (de_call (ds0 := []) (ok_p_law_deal T) (hr.mono (by decide)) (by rfl) T.p_law_deal_m T.p_law_deal_F.kp T.p_law_deal_b .nil (fun _ => rfl) (da_cons (de_v (pv 0)) (da_cons (de_c1 cr_len cs_len (by rfl) T.b_len PySem.boot_len (de_v (pv 1))) (da_nil))))))
      (ds_one (ds_ret (de_op opr_add os_add (de_op opr_add os_add (de_sl (de_v (pv 1)) (dp_none) (dp_some (de_v (pv 4)))) (de_v (pv 3))) (de_sl (de_v (pv 1)) (dp_some (de_op opr_add os_add (de_v (pv 4)) (de_call (ds0 := []) (ok_p_law_deal T) (hr.mono (by decide)) (by rfl) T.p_law_deal_m T.p_law_deal_F.kp T.p_law_deal_b .nil (fun _ => rfl) (da_cons (de_v (pv 0)) (da_cons (de_int) (da_nil)))))) (dp_none)))))))
theorem ok_p_law_pool (T : Txt K w mg) : FnOk P w K mg base CX0 4 T.p_law_pool_a T.p_law_pool_fd ["dealer", "many"] (spD K 2 fn_p_law_pool) := by
  refine fn_ok (k := 3) (N := ["dealer", "many", "pool", "k", "name"]) T.p_law_pool_F sc_p_law_pool fun cdv A outer s H hr => ?_
  have hu := hr.units
  exact ds_cons (ds_set (i := 2) sc_p_law_pool.nd rfl (by first | exact .inl rfl | exact .inr rfl) (de_lst (da_cons (de_call (ds0 := []) (ok_p_law_name T) (hr.mono (by decide)) (by rfl) T.p_law_name_m T.p_law_name_F.kp T.p_law_name_b .nil (fun _ => rfl) (da_cons (de_v (pv 0)) (da_nil))) (da_nil))))
      (ds_cons (ds_for PassesOwn.never rfl (di_r1 (by rfl) T.b_range (da_cons (de_op opr_mul os_mul (de_int) (de_v (pv 1))) (da_nil))) (dg_n (i := 3) sc_p_law_pool.nd rfl (by first | exact .inl rfl | exact .inr rfl)) (ds_cons (ds_set (i := 4) sc_p_law_pool.nd rfl (by first | exact .inl rfl | exact .inr rfl) (de_if (dt_cmp (opr_eq hu) (by first | exact nobehind _ (by decide) (by decide) | rfl) os_eq (de_call (ds0 := []) (ok_p_law_deal T) (hr.mono (by decide)) (by rfl) T.p_law_deal_m T.p_law_deal_F.kp T.p_law_deal_b .nil (fun _ => rfl) (da_cons (de_v (pv 0)) (da_cons (de_int) (da_nil)))) (de_int)) (de_call (ds0 := []) (ok_p_law_kin T) (hr.mono (by decide)) (by rfl) T.p_law_kin_m T.p_law_kin_F.kp T.p_law_kin_b .nil (fun _ => rfl) (da_cons (de_v (pv 0)) (da_cons (de_callL (ds0 := []) (ok_p_law_one T) (hr.mono (by decide)) (by rfl) T.p_law_one_m T.p_law_one_F.kp T.p_law_one_b .nil (fun _ => rfl) (dl_cons (de_v (pv 0)) (dl_cons (de_v (pv 2)) (dl_nil)))) (da_nil)))) (de_call (ds0 := []) (ok_p_law_name T) (hr.mono (by decide)) (by rfl) T.p_law_name_m T.p_law_name_F.kp T.p_law_name_b .nil (fun _ => rfl) (da_cons (de_v (pv 0)) (da_nil)))))
      (ds_one (ds_if ((dw_and (dt_cmp (opr_lt hu) (by first | exact nobehind _ (by decide) (by decide) | rfl) os_lt (de_c1 cr_len cs_len (by rfl) T.b_len PySem.boot_len (de_v (pv 2))) (de_v (pv 1))) (dw_and1 (dt_cmp (opr_notin hu) (by first | exact nobehind _ (by decide) (by decide) | rfl) os_in (de_v (pv 4)) (de_v (pv 2))))).pt) (ds_one (ds_app (i := 2) (pv 2) (de_v (pv 4)))) (ds_nil)))))
      (ds_one (ds_ret (de_v (pv 2)))))
theorem ok_p_law_values (T : Txt K w mg) : FnOk P w K mg base CX0 2 T.p_law_values_a T.p_law_values_fd ["dealer", "values"] (spD K 2 fn_p_law_values) := by
  refine fn_ok (k := 1) (N := ["dealer", "values", "many", "start", "k"]) T.p_law_values_F sc_p_law_values fun cdv A outer s H hr => ?_
  have hu := hr.units
  exact ds_cons (ds_set (i := 2) sc_p_law_values.nd rfl (by first | exact .inl rfl | exact .inr rfl) (de_op opr_add os_add (de_int) (de_call (ds0 := []) (ok_p_law_deal T) (hr.mono (by decide)) (by rfl) T.p_law_deal_m T.p_law_deal_F.kp T.p_law_deal_b .nil (fun _ => rfl) (da_cons (de_v (pv 0)) (da_cons (de_c1 cr_len cs_len (by rfl) T.b_len PySem.boot_len (de_v (pv 1))) (da_nil))))))
      (ds_cons (ds_set (i := 3) sc_p_law_values.nd rfl (by first | exact .inl rfl | exact .inr rfl) (de_call (ds0 := []) (ok_p_law_deal T) (hr.mono (by decide)) (by rfl) T.p_law_deal_m T.p_law_deal_F.kp T.p_law_deal_b .nil (fun _ => rfl) (da_cons (de_v (pv 0)) (da_cons (de_c1 cr_len cs_len (by rfl) T.b_len PySem.boot_len (de_v (pv 1))) (da_nil)))))
      (ds_one (ds_ret (de_c1t call_tuple_of cs_tuple (by rfl) T.b_tuple (by decide +kernel) (de_c1 (cr_srt hu) cs_srt (by rfl) T.b_sorted (by decide +kernel) (de_lc (own := [("k", 4)]) rfl sc_p_law_values.nd (di_r1 (by rfl) T.b_range (da_cons (de_v (pv 2)) (da_nil))) (blkOk_by (own := [("k", 4)]) (N := ["dealer", "values", "many", "start", "k"]) (sc := defScope s_p_law_values) (by decide +kernel)) keep_n (by decide) (fun _ _ _ _ _ => dg_n (i := 4) sc_p_law_values.nd rfl (by first | exact .inl rfl | exact .inr rfl)) (fun _ _ _ _ _ => dts_nil) (fun _ _ _ _ _ => de_ix (ixr hu) (fun _ _ => rfl) os_ix (de_op opr_add os_add (de_v (pv 1)) (de_v (pv 1))) (de_op opr_add os_add (de_v (pv 3)) (de_v (pv 4))))))))))
theorem ok_p_law_leaf (T : Txt K w mg) : FnOk P w K mg base CX0 3 T.p_law_leaf_a T.p_law_leaf_fd ["dealer", "labels", "values"] (spD K 3 fn_p_law_leaf) := by
  refine fn_ok (k := 2) (N := ["dealer", "labels", "values", "what"]) T.p_law_leaf_F sc_p_law_leaf fun cdv A outer s H hr => ?_
  have hu := hr.units
  exact ds_cons (ds_set (i := 3) sc_p_law_leaf.nd rfl (by first | exact .inl rfl | exact .inr rfl) (de_call (ds0 := []) (ok_p_law_deal T) (hr.mono (by decide)) (by rfl) T.p_law_deal_m T.p_law_deal_F.kp T.p_law_deal_b .nil (fun _ => rfl) (da_cons (de_v (pv 0)) (da_cons (de_int) (da_nil)))))
      (ds_cons (ds_if (dt_cmp (opr_eq hu) (by first | exact nobehind _ (by decide) (by decide) | rfl) os_eq (de_v (pv 3)) (de_int)) (ds_one (ds_ret (de_tup (da_cons (de_str) (da_nil))))) (ds_nil))
      (ds_cons (ds_if (dt_cmp (opr_lt hu) (by first | exact nobehind _ (by decide) (by decide) | rfl) os_lt (de_v (pv 3)) (de_int)) (ds_one (ds_ret (de_tup (da_cons (de_str) (da_cons (de_call (ds0 := []) (ok_p_law_one T) (hr.mono (by decide)) (by rfl) T.p_law_one_m T.p_law_one_F.kp T.p_law_one_b .nil (fun _ => rfl) (da_cons (de_v (pv 0)) (da_cons (de_v (pv 1)) (da_nil)))) (da_nil)))))) (ds_nil))
      (ds_one (ds_ret (de_tup (da_cons (de_str) (da_cons (de_call (ds0 := []) (ok_p_law_one T) (hr.mono (by decide)) (by rfl) T.p_law_one_m T.p_law_one_F.kp T.p_law_one_b .nil (fun _ => rfl) (da_cons (de_v (pv 0)) (da_cons (de_v (pv 1)) (da_nil)))) (da_cons (de_call (ds0 := []) (ok_p_law_values T) (hr.mono (by decide)) (by rfl) T.p_law_values_m T.p_law_values_F.kp T.p_law_values_b .nil (fun _ => rfl) (da_cons (de_v (pv 0)) (da_cons (de_v (pv 2)) (da_nil)))) (da_nil)))))))))
theorem ok_p_law_selector (T : Txt K w mg) : ∀ n, FnOk P w K mg base CX0 (4 + n) T.p_law_selector_a T.p_law_selector_fd ["dealer", "parts", "labels", "values"] (spD K 4 (fn_p_law_selector n))
  | 0 => fn_false
  | n + 1 => by
    have ih := ok_p_law_selector T n
    refine fn_ok (k := 4 + n) (N := ["dealer", "parts", "labels", "values", "many", "first"]) T.p_law_selector_F sc_p_law_selector fun cdv A outer s H hr => ?_
    have hu := hr.units
    exact ds_cons (ds_if (dt_cmp (opr_eq hu) (by first | exact nobehind _ (by decide) (by decide) | rfl) os_eq (de_v (pv 1)) (de_int)) (ds_one (ds_ret (de_call (ds0 := []) (ok_p_law_leaf T) (hr.mono (by omega)) (by rfl) T.p_law_leaf_m T.p_law_leaf_F.kp T.p_law_leaf_b .nil (fun _ => rfl) (da_cons (de_v (pv 0)) (da_cons (de_v (pv 2)) (da_cons (de_v (pv 3)) (da_nil))))))) (ds_nil))
      (ds_cons (ds_if ((dw_or (dt_cmp (opr_eq hu) (by first | exact nobehind _ (by decide) (by decide) | rfl) os_eq (de_v (pv 1)) (de_int)) (dw_or1 (dt_cmp (opr_eq hu) (by first | exact nobehind _ (by decide) (by decide) | rfl) os_eq (de_call (ds0 := []) (ok_p_law_deal T) (hr.mono (by omega)) (by rfl) T.p_law_deal_m T.p_law_deal_F.kp T.p_law_deal_b .nil (fun _ => rfl) (da_cons (de_v (pv 0)) (da_cons (de_int) (da_nil)))) (de_int)))).pt) (ds_one (ds_ret (de_tup (da_cons (de_str) (da_cons (de_call (ds0 := []) (ih) (hr.mono (by omega)) (by rfl) T.p_law_selector_m T.p_law_selector_F.kp T.p_law_selector_b .nil (fun _ => rfl) (da_cons (de_v (pv 0)) (da_cons (de_op op_sub os_sub (de_v (pv 1)) (de_int)) (da_cons (de_v (pv 2)) (da_cons (de_v (pv 3)) (da_nil)))))) (da_nil)))))) (ds_nil))
      (ds_cons (ds_set (i := 4) sc_p_law_selector.nd rfl (by first | exact .inl rfl | exact .inr rfl) (de_op opr_add os_add (de_int) (de_if (dt_cmp (opr_eq hu) (by first | exact nobehind _ (by decide) (by decide) | rfl) os_eq (de_call (ds0 := []) (ok_p_law_deal T) (hr.mono (by omega)) (by rfl) T.p_law_deal_m T.p_law_deal_F.kp T.p_law_deal_b .nil (fun _ => rfl) (da_cons (de_v (pv 0)) (da_cons (de_int) (da_nil)))) (de_int)) (de_call (ds0 := []) (ok_p_law_deal T) (hr.mono (by omega)) (by rfl) T.p_law_deal_m T.p_law_deal_F.kp T.p_law_deal_b .nil (fun _ => rfl) (da_cons (de_v (pv 0)) (da_cons (de_op op_sub os_sub (de_v (pv 1)) (de_int)) (da_nil)))) (de_int))))
      (ds_cons (ds_if (dt_cmp (opr_eq hu) (by first | exact nobehind _ (by decide) (by decide) | rfl) os_eq (de_call (ds0 := []) (ok_p_law_deal T) (hr.mono (by omega)) (by rfl) T.p_law_deal_m T.p_law_deal_F.kp T.p_law_deal_b .nil (fun _ => rfl) (da_cons (de_v (pv 0)) (da_cons (de_int) (da_nil)))) (de_int)) (ds_one (ds_set (i := 4) sc_p_law_selector.nd rfl (by first | exact .inl rfl | exact .inr rfl) (de_op op_sub os_sub (de_op op_sub os_sub (de_v (pv 1)) (de_int)) (de_v (pv 4))))) (ds_nil))
      (ds_cons (ds_set (i := 5) sc_p_law_selector.nd rfl (by first | exact .inl rfl | exact .inr rfl) (de_call (ds0 := []) (ih) (hr.mono (by omega)) (by rfl) T.p_law_selector_m T.p_law_selector_F.kp T.p_law_selector_b .nil (fun _ => rfl) (da_cons (de_v (pv 0)) (da_cons (de_v (pv 4)) (da_cons (de_v (pv 2)) (da_cons (de_v (pv 3)) (da_nil)))))))
      (ds_one (ds_ret (de_tup (da_cons (de_call (ds0 := []) (ok_p_law_one T) (hr.mono (by omega)) (by rfl) T.p_law_one_m T.p_law_one_F.kp T.p_law_one_b .nil (fun _ => rfl) (da_cons (de_v (pv 0)) (da_cons (de_tup (da_cons (de_str) (da_cons (de_str) (da_nil)))) (da_nil)))) (da_cons (de_v (pv 5)) (da_cons (de_call (ds0 := []) (ih) (hr.mono (by omega)) (by rfl) T.p_law_selector_m T.p_law_selector_F.kp T.p_law_selector_b .nil (fun _ => rfl) (da_cons (de_v (pv 0)) (da_cons (de_op op_sub os_sub (de_op op_sub os_sub (de_v (pv 1)) (de_int)) (de_v (pv 4))) (da_cons (de_v (pv 2)) (da_cons (de_v (pv 3)) (da_nil)))))) (da_nil)))))))))))
theorem ok_p_law_fits (T : Txt K w mg) : ∀ n, FnOk P w K mg base CX0 (1 + n) T.p_law_fits_a T.p_law_fits_fd ["series", "selector"] (spD K 2 (fn_p_law_fits n))
  | 0 => fn_false
  | n + 1 => by
    have ih := ok_p_law_fits T n
    refine fn_ok (k := 1 + n) (N := ["series", "selector", "word", "pair"]) T.p_law_fits_F sc_p_law_fits fun cdv A outer s H hr => ?_
    have hu := hr.units
    exact ds_cons (ds_set (i := 2) sc_p_law_fits.nd rfl (by first | exact .inl rfl | exact .inr rfl) (de_ix (ixr hu) (fun _ _ => rfl) os_ix (de_v (pv 1)) (de_int)))
      (ds_cons (ds_if (dt_cmp (opr_eq hu) (by first | exact nobehind _ (by decide) (by decide) | rfl) os_eq (de_v (pv 2)) (de_str)) (ds_one (ds_ret (de_not (de_call (ds0 := []) (ih) (hr.mono (by omega)) (by rfl) T.p_law_fits_m T.p_law_fits_F.kp T.p_law_fits_b .nil (fun _ => rfl) (da_cons (de_v (pv 0)) (da_cons (de_ix (ixr hu) (fun _ _ => rfl) os_ix (de_v (pv 1)) (de_int)) (da_nil))))))) (ds_nil))
      (ds_cons (ds_if (dt_cmp (opr_eq hu) (by first | exact nobehind _ (by decide) (by decide) | rfl) os_eq (de_v (pv 2)) (de_str)) (ds_one (ds_ret (de_and (de_call (ds0 := []) (ih) (hr.mono (by omega)) (by rfl) T.p_law_fits_m T.p_law_fits_F.kp T.p_law_fits_b .nil (fun _ => rfl) (da_cons (de_v (pv 0)) (da_cons (de_ix (ixr hu) (fun _ _ => rfl) os_ix (de_v (pv 1)) (de_int)) (da_nil)))) (de_one (de_call (ds0 := []) (ih) (hr.mono (by omega)) (by rfl) T.p_law_fits_m T.p_law_fits_F.kp T.p_law_fits_b .nil (fun _ => rfl) (da_cons (de_v (pv 0)) (da_cons (de_ix (ixr hu) (fun _ _ => rfl) os_ix (de_v (pv 1)) (de_int)) (da_nil)))))))) (ds_nil))
      (ds_cons (ds_if (dt_cmp (opr_eq hu) (by first | exact nobehind _ (by decide) (by decide) | rfl) os_eq (de_v (pv 2)) (de_str)) (ds_one (ds_ret (de_or (de_call (ds0 := []) (ih) (hr.mono (by omega)) (by rfl) T.p_law_fits_m T.p_law_fits_F.kp T.p_law_fits_b .nil (fun _ => rfl) (da_cons (de_v (pv 0)) (da_cons (de_ix (ixr hu) (fun _ _ => rfl) os_ix (de_v (pv 1)) (de_int)) (da_nil)))) (de_one (de_call (ds0 := []) (ih) (hr.mono (by omega)) (by rfl) T.p_law_fits_m T.p_law_fits_F.kp T.p_law_fits_b .nil (fun _ => rfl) (da_cons (de_v (pv 0)) (da_cons (de_ix (ixr hu) (fun _ _ => rfl) os_ix (de_v (pv 1)) (de_int)) (da_nil)))))))) (ds_nil))
      (ds_cons (ds_if (dt_cmp (opr_eq hu) (by first | exact nobehind _ (by decide) (by decide) | rfl) os_eq (de_v (pv 2)) (de_str)) (ds_one (ds_ret (de_bl))) (ds_nil))
      (ds_cons (ds_for PassesOwn.never rfl (di_e (de_v (pv 0))) (dg_n (i := 3) sc_p_law_fits.nd rfl (by first | exact .inl rfl | exact .inr rfl)) (ds_one (ds_if (dt_cmp (opr_eq hu) (by first | exact nobehind _ (by decide) (by decide) | rfl) os_eq (de_ix (ixr hu) (fun _ _ => rfl) os_ix (de_v (pv 3)) (de_int)) (de_ix (ixr hu) (fun _ _ => rfl) os_ix (de_v (pv 1)) (de_int))) (ds_one (ds_ret (de_or (de_cmp (opr_eq hu) (by first | exact nobehind _ (by decide) (by decide) | rfl) os_eq (de_v (pv 2)) (de_str)) (de_one (de_cmp (opr_in hu) (by first | exact nobehind _ (by decide) (by decide) | rfl) os_in (de_ix (ixr hu) (fun _ _ => rfl) os_ix (de_v (pv 3)) (de_int)) (de_ix (ixr hu) (fun _ _ => rfl) os_ix (de_v (pv 1)) (de_int))))))) (ds_nil))))
      (ds_one (ds_ret (de_bl))))))))
theorem ok_p_law_series (T : Txt K w mg) : FnOk P w K mg base CX0 3 T.p_law_series_a T.p_law_series_fd ["dealer", "labels", "values"] (spD K 3 fn_p_law_series) := by
  refine fn_ok (k := 2) (N := ["dealer", "labels", "values", "rows", "label"]) T.p_law_series_F sc_p_law_series fun cdv A outer s H hr => ?_
  have hu := hr.units
  exact ds_cons (ds_setLc (i := 3) (own := [("label", 4)]) rfl sc_p_law_series.nd rfl rfl (sw_true rfl rfl rfl (by decide +kernel)) (di_e (de_v (pv 1))) (blkOk_by (own := [("label", 4)]) (N := ["dealer", "labels", "values", "rows", "label"]) (sc := defScope s_p_law_series) (by decide +kernel)) keep_n (by decide) (fun _ _ _ _ _ => dg_n (i := 4) sc_p_law_series.nd rfl (by first | exact .inl rfl | exact .inr rfl)) (fun _ _ _ _ _ => dts_one (dt_cmp (opr_gt hu) (by first | exact nobehind _ (by decide) (by decide) | rfl) os_gt (de_call (ds0 := []) (ok_p_law_deal T) (hr.mono (by decide)) (by rfl) T.p_law_deal_m T.p_law_deal_F.kp T.p_law_deal_b .nil (fun _ => rfl) (da_cons (de_v (pv 0)) (da_cons (de_int) (da_nil)))) (de_int))) (fun _ _ _ _ _ => de_tup (da_cons (de_v (pv 4)) (da_cons (de_call (ds0 := []) (ok_p_law_one T) (hr.mono (by decide)) (by rfl) T.p_law_one_m T.p_law_one_F.kp T.p_law_one_b .nil (fun _ => rfl) (da_cons (de_v (pv 0)) (da_cons (de_v (pv 2)) (da_nil)))) (da_nil)))))
      (ds_one (ds_ret (de_c1t call_tuple_of cs_tuple (by rfl) T.b_tuple (by decide +kernel) (de_c1 (cr_srt hu) cs_srt (by rfl) T.b_sorted (by decide +kernel) (de_v (pv 3))))))
theorem ok_law (T : Txt K w mg) : FnOk P w K mg base CX0 75 T.law_a T.law_fd ["script"] (spD K 1 fn_law) := by
  refine fn_ok (k := 74) (N := ["script", "dealer", "labels", "word", "values", "rows", "k", "parts", "selector", "series", "due", "told"]) T.law_F sc_law fun cdv A outer s H hr => ?_
  have hu := hr.units
  exact ds_cons (ds_set (i := 1) sc_law.nd rfl (by first | exact .inl rfl | exact .inr rfl) (de_call (ds0 := []) (ok_p_law_dealer T) (hr.mono (by decide)) (by rfl) T.p_law_dealer_m T.p_law_dealer_F.kp T.p_law_dealer_b .nil (fun _ => rfl) (da_cons (de_v (pv 0)) (da_nil))))
      (ds_cons (ds_set (i := 2) sc_law.nd rfl (by first | exact .inl rfl | exact .inr rfl) (de_call (ds0 := []) (ok_p_law_pool T) (hr.mono (by decide)) (by rfl) T.p_law_pool_m T.p_law_pool_F.kp T.p_law_pool_b .nil (fun _ => rfl) (da_cons (de_v (pv 1)) (da_cons (de_int) (da_nil)))))
      (ds_cons (ds_for PassesOwn.never rfl (di_e (de_tup (da_cons (de_str) (da_cons (de_str) (da_cons (de_str) (da_cons (de_str) (da_nil))))))) (dg_n (i := 3) sc_law.nd rfl (by first | exact .inl rfl | exact .inr rfl)) (ds_one (ds_if ((dw_and (dt_cmp (opr_notin hu) (by first | exact nobehind _ (by decide) (by decide) | rfl) os_in (de_v (pv 3)) (de_v (pv 2))) (dw_and1 (dt_cmp (opr_eq hu) (by first | exact nobehind _ (by decide) (by decide) | rfl) os_eq (de_call (ds0 := []) (ok_p_law_deal T) (hr.mono (by decide)) (by rfl) T.p_law_deal_m T.p_law_deal_F.kp T.p_law_deal_b .nil (fun _ => rfl) (da_cons (de_v (pv 1)) (da_cons (de_int) (da_nil)))) (de_int)))).pt) (ds_one (ds_app (i := 2) (pv 2) (de_v (pv 3)))) (ds_nil))))
      (ds_cons (ds_set (i := 4) sc_law.nd rfl (by first | exact .inl rfl | exact .inr rfl) (de_op opr_add os_add (de_call (ds0 := []) (ok_p_law_pool T) (hr.mono (by decide)) (by rfl) T.p_law_pool_m T.p_law_pool_F.kp T.p_law_pool_b .nil (fun _ => rfl) (da_cons (de_v (pv 1)) (da_cons (de_int) (da_nil)))) (de_sl (de_v (pv 2)) (dp_none) (dp_some (de_int)))))
      (ds_cons (ds_set (i := 4) sc_law.nd rfl (by first | exact .inl rfl | exact .inr rfl) (de_sortSet hu rfl (by rfl) T.b_sorted (by rfl) T.b_set (de_v (pv 4))))
      (ds_cons (ds_set (i := 5) sc_law.nd rfl (by first | exact .inl rfl | exact .inr rfl) (de_op opr_add os_add (de_lc (own := [("k", 6)]) rfl sc_law.nd (di_r1 (by rfl) T.b_range (da_cons (de_int) (da_nil))) (blkOk_by (own := [("k", 6)]) (N := ["script", "dealer", "labels", "word", "values", "rows", "k", "parts", "selector", "series", "due", "told"]) (sc := defScope s_law) (by decide +kernel)) keep_n (by decide) (fun _ _ _ _ _ => dg_n (i := 6) sc_law.nd rfl (by first | exact .inl rfl | exact .inr rfl)) (fun _ _ _ _ _ => dts_nil) (fun _ _ _ _ _ => de_call (ds0 := []) (ok_p_law_series T) (hr.mono (by decide)) (by rfl) T.p_law_series_m T.p_law_series_F.kp T.p_law_series_b .nil (fun _ => rfl) (da_cons (de_v (pv 1)) (da_cons (de_sl (de_v (pv 2)) (dp_none) (dp_some (de_int))) (da_cons (de_v (pv 4)) (da_nil)))))) (de_lst (da_cons (de_tup (da_nil)) (da_nil)))))
      (ds_cons (ds_for PassesOwn.never rfl (di_r1 (by rfl) T.b_range (da_cons (de_int) (da_nil))) (dg_n (i := 6) sc_law.nd rfl (by first | exact .inl rfl | exact .inr rfl)) (ds_cons (ds_set (i := 7) sc_law.nd rfl (by first | exact .inl rfl | exact .inr rfl) (de_call (ds0 := []) (ok_p_law_one T) (hr.mono (by decide)) (by rfl) T.p_law_one_m T.p_law_one_F.kp T.p_law_one_b .nil (fun _ => rfl) (da_cons (de_v (pv 1)) (da_cons (de_tup (da_cons (de_int) (da_cons (de_int) (da_cons (de_int) (da_cons (de_int) (da_cons (de_int) (da_cons (de_int) (da_cons (de_int) (da_cons (de_int) (da_nil)))))))))) (da_nil)))))
      (ds_cons (ds_set (i := 8) sc_law.nd rfl (by first | exact .inl rfl | exact .inr rfl) (de_callL (ds0 := []) (ok_p_law_selector T 70) (hr.mono (by decide)) (by rfl) T.p_law_selector_m T.p_law_selector_F.kp T.p_law_selector_b .nil (fun _ => rfl) (dl_cons (de_v (pv 1)) (dl_cons (de_v (pv 7)) (dl_cons (de_v (pv 2)) (dl_cons (de_v (pv 4)) (dl_nil)))))))
      (ds_one (ds_for PassesOwn.never rfl (di_e (de_v (pv 5))) (dg_n (i := 9) sc_law.nd rfl (by first | exact .inl rfl | exact .inr rfl)) (ds_cons (ds_set (i := 10) sc_law.nd rfl (by first | exact .inl rfl | exact .inr rfl) (de_call (ds0 := []) (ok_p_law_fits T 70) (hr.mono (by decide)) (by rfl) T.p_law_fits_m T.p_law_fits_F.kp T.p_law_fits_b .nil (fun _ => rfl) (da_cons (de_v (pv 9)) (da_cons (de_v (pv 8)) (da_nil)))))
      (ds_cons (ds_set (i := 11) sc_law.nd rfl (by first | exact .inl rfl | exact .inr rfl) (de_call (ds0 := []) (ok_fits T) (hr.mono (by decide)) (by rfl) T.fits_m T.fits_F.kp T.fits_b .nil (fun _ => rfl) (da_cons (de_v (pv 9)) (da_cons (de_v (pv 8)) (da_nil)))))
      (ds_one (ds_if ((dw_or (dt_not (dt_tru (cs_isi hf_bool rfl (by rfl) T.b_isinstance (de_v (pv 11)) (pe_bltn (by rfl) T.b_bool (by decide +kernel) rfl)))) (dw_or (dt_cmp (opr_ne hu) (by first | exact nobehind _ (by decide) (by decide) | rfl) os_ne (de_v (pv 11)) (de_v (pv 10))) (dw_or1 (dt_cmp (opr_ne hu) (by first | exact nobehind _ (by decide) (by decide) | rfl) os_ne (de_callK (ok_fits T) (hr.mono (by decide)) (by rfl) T.fits_m T.fits_F.kp (T.fits_F.kbt fun _ _ _ _ _ _ _ _ => rfl) (dk_cons (de_v (pv 8)) (dk_cons (de_v (pv 9)) (dk_nil)))) (de_v (pv 10)))))).pt) (ds_one (ds_ret (de_bl))) (ds_nil))))))))))
      (ds_one (ds_ret (de_bl)))))))))
end
end K04
namespace K04
open PySem PySem.Spec PyProof.Rows L2 DL
theorem all_mk {l : PySem.W.OpenLaw} {w : World} {K : PySem.W.Frag} {h : Heap} {mg : Str → Option Value} {fa : Addr} (X : K.In h) (G : h.Ns mainGlobals mg) (hfa : mg "law" = some (.ref fa))
    {fis_name : Addr} {odis_name anis_name : Option Addr} {slis_name : Array (Option Value)} {ocis_name kVis_name dcis_name pmis_name cdis_name ctis_name : Value}
    {fis_ascending : Addr} {odis_ascending anis_ascending : Option Addr} {slis_ascending : Array (Option Value)} {ocis_ascending kVis_ascending dcis_ascending pmis_ascending cdis_ascending ctis_ascending : Value}
    {fis_row_of_names : Addr} {odis_row_of_names anis_row_of_names : Option Addr} {slis_row_of_names : Array (Option Value)} {ocis_row_of_names kVis_row_of_names dcis_row_of_names pmis_row_of_names cdis_row_of_names ctis_row_of_names : Value}
    {fis_pair_of_names : Addr} {odis_pair_of_names anis_pair_of_names : Option Addr} {slis_pair_of_names : Array (Option Value)} {ocis_pair_of_names kVis_pair_of_names dcis_pair_of_names pmis_pair_of_names cdis_pair_of_names ctis_pair_of_names : Value}
    {fis_series : Addr} {odis_series anis_series : Option Addr} {slis_series : Array (Option Value)} {ocis_series kVis_series dcis_series pmis_series cdis_series ctis_series : Value}
    {finner_selectors : Addr} {odinner_selectors aninner_selectors : Option Addr} {slinner_selectors : Array (Option Value)} {ocinner_selectors kVinner_selectors dcinner_selectors pminner_selectors cdinner_selectors ctinner_selectors : Value}
    {fis_part : Addr} {odis_part anis_part : Option Addr} {slis_part : Array (Option Value)} {ocis_part kVis_part dcis_part pmis_part cdis_part ctis_part : Value}
    {fis_selector : Addr} {odis_selector anis_selector : Option Addr} {slis_selector : Array (Option Value)} {ocis_selector kVis_selector dcis_selector pmis_selector cdis_selector ctis_selector : Value}
    {fcheck_series : Addr} {odcheck_series ancheck_series : Option Addr} {slcheck_series : Array (Option Value)} {occheck_series kVcheck_series dccheck_series pmcheck_series cdcheck_series ctcheck_series : Value}
    {fcheck_selector : Addr} {odcheck_selector ancheck_selector : Option Addr} {slcheck_selector : Array (Option Value)} {occheck_selector kVcheck_selector dccheck_selector pmcheck_selector cdcheck_selector ctcheck_selector : Value}
    {fholds : Addr} {odholds anholds : Option Addr} {slholds : Array (Option Value)} {ocholds kVholds dcholds pmholds cdholds ctholds : Value}
    {flabels_of : Addr} {odlabels_of anlabels_of : Option Addr} {sllabels_of : Array (Option Value)} {oclabels_of kVlabels_of dclabels_of pmlabels_of cdlabels_of ctlabels_of : Value}
    {ffits : Addr} {odfits anfits : Option Addr} {slfits : Array (Option Value)} {ocfits kVfits dcfits pmfits cdfits ctfits : Value}
    {fp_law_dealer : Addr} {odp_law_dealer anp_law_dealer : Option Addr} {slp_law_dealer : Array (Option Value)} {ocp_law_dealer kVp_law_dealer dcp_law_dealer pmp_law_dealer cdp_law_dealer ctp_law_dealer : Value}
    {fp_law_deal : Addr} {odp_law_deal anp_law_deal : Option Addr} {slp_law_deal : Array (Option Value)} {ocp_law_deal kVp_law_deal dcp_law_deal pmp_law_deal cdp_law_deal ctp_law_deal : Value}
    {fp_law_one : Addr} {odp_law_one anp_law_one : Option Addr} {slp_law_one : Array (Option Value)} {ocp_law_one kVp_law_one dcp_law_one pmp_law_one cdp_law_one ctp_law_one : Value}
    {fp_law_name : Addr} {odp_law_name anp_law_name : Option Addr} {slp_law_name : Array (Option Value)} {ocp_law_name kVp_law_name dcp_law_name pmp_law_name cdp_law_name ctp_law_name : Value}
    {fp_law_kin : Addr} {odp_law_kin anp_law_kin : Option Addr} {slp_law_kin : Array (Option Value)} {ocp_law_kin kVp_law_kin dcp_law_kin pmp_law_kin cdp_law_kin ctp_law_kin : Value}
    {fp_law_pool : Addr} {odp_law_pool anp_law_pool : Option Addr} {slp_law_pool : Array (Option Value)} {ocp_law_pool kVp_law_pool dcp_law_pool pmp_law_pool cdp_law_pool ctp_law_pool : Value}
    {fp_law_values : Addr} {odp_law_values anp_law_values : Option Addr} {slp_law_values : Array (Option Value)} {ocp_law_values kVp_law_values dcp_law_values pmp_law_values cdp_law_values ctp_law_values : Value}
    {fp_law_leaf : Addr} {odp_law_leaf anp_law_leaf : Option Addr} {slp_law_leaf : Array (Option Value)} {ocp_law_leaf kVp_law_leaf dcp_law_leaf pmp_law_leaf cdp_law_leaf ctp_law_leaf : Value}
    {fp_law_selector : Addr} {odp_law_selector anp_law_selector : Option Addr} {slp_law_selector : Array (Option Value)} {ocp_law_selector kVp_law_selector dcp_law_selector pmp_law_selector cdp_law_selector ctp_law_selector : Value}
    {fp_law_fits : Addr} {odp_law_fits anp_law_fits : Option Addr} {slp_law_fits : Array (Option Value)} {ocp_law_fits kVp_law_fits dcp_law_fits pmp_law_fits cdp_law_fits ctp_law_fits : Value}
    {fp_law_series : Addr} {odp_law_series anp_law_series : Option Addr} {slp_law_series : Array (Option Value)} {ocp_law_series kVp_law_series dcp_law_series pmp_law_series cdp_law_series ctp_law_series : Value}
    {flaw : Addr} {odlaw anlaw : Option Addr} {sllaw : Array (Option Value)} {oclaw kVlaw dclaw pmlaw cdlaw ctlaw : Value}
    {tAND : Tok}
    {tANY : Tok}
    {tHAS : Tok}
    {tIS : Tok}
    {fLENGTHS : Addr} {esLENGTHS : Array DictEntry} {nLENGTHS : Nat}
    {tMOST_PARTS : Tok}
    {tNAME_SIGNS : Tok}
    {tNOT : Tok}
    {tOR : Tok}
    {tSMALL : Tok}
    (ais_name : PySem.W.nsIn K mainGlobals "is_name" = some (some (.ref fis_name)))
    (lis_name : K.lookup fis_name = some ⟨ocis_name, odis_name, .func (PySem.W.fnOf "is_name" "is_name" (defArgs s_is_name) (defBody s_is_name) (defScope s_is_name) .none kVis_name dcis_name pmis_name anis_name cdis_name ctis_name), slis_name⟩)
    (cis_name : PySem.W.codeIn K cdis_name "is_name" = true)
    (kis_name : PySem.W.keepIn K (.ref fis_name) = true)
    (ais_ascending : PySem.W.nsIn K mainGlobals "is_ascending" = some (some (.ref fis_ascending)))
    (lis_ascending : K.lookup fis_ascending = some ⟨ocis_ascending, odis_ascending, .func (PySem.W.fnOf "is_ascending" "is_ascending" (defArgs s_is_ascending) (defBody s_is_ascending) (defScope s_is_ascending) .none kVis_ascending dcis_ascending pmis_ascending anis_ascending cdis_ascending ctis_ascending), slis_ascending⟩)
    (cis_ascending : PySem.W.codeIn K cdis_ascending "is_ascending" = true)
    (kis_ascending : PySem.W.keepIn K (.ref fis_ascending) = true)
    (ais_row_of_names : PySem.W.nsIn K mainGlobals "is_row_of_names" = some (some (.ref fis_row_of_names)))
    (lis_row_of_names : K.lookup fis_row_of_names = some ⟨ocis_row_of_names, odis_row_of_names, .func (PySem.W.fnOf "is_row_of_names" "is_row_of_names" (defArgs s_is_row_of_names) (defBody s_is_row_of_names) (defScope s_is_row_of_names) .none kVis_row_of_names dcis_row_of_names pmis_row_of_names anis_row_of_names cdis_row_of_names ctis_row_of_names), slis_row_of_names⟩)
    (cis_row_of_names : PySem.W.codeIn K cdis_row_of_names "is_row_of_names" = true)
    (kis_row_of_names : PySem.W.keepIn K (.ref fis_row_of_names) = true)
    (ais_pair_of_names : PySem.W.nsIn K mainGlobals "is_pair_of_names" = some (some (.ref fis_pair_of_names)))
    (lis_pair_of_names : K.lookup fis_pair_of_names = some ⟨ocis_pair_of_names, odis_pair_of_names, .func (PySem.W.fnOf "is_pair_of_names" "is_pair_of_names" (defArgs s_is_pair_of_names) (defBody s_is_pair_of_names) (defScope s_is_pair_of_names) .none kVis_pair_of_names dcis_pair_of_names pmis_pair_of_names anis_pair_of_names cdis_pair_of_names ctis_pair_of_names), slis_pair_of_names⟩)
    (cis_pair_of_names : PySem.W.codeIn K cdis_pair_of_names "is_pair_of_names" = true)
    (kis_pair_of_names : PySem.W.keepIn K (.ref fis_pair_of_names) = true)
    (ais_series : PySem.W.nsIn K mainGlobals "is_series" = some (some (.ref fis_series)))
    (lis_series : K.lookup fis_series = some ⟨ocis_series, odis_series, .func (PySem.W.fnOf "is_series" "is_series" (defArgs s_is_series) (defBody s_is_series) (defScope s_is_series) .none kVis_series dcis_series pmis_series anis_series cdis_series ctis_series), slis_series⟩)
    (cis_series : PySem.W.codeIn K cdis_series "is_series" = true)
    (kis_series : PySem.W.keepIn K (.ref fis_series) = true)
    (ainner_selectors : PySem.W.nsIn K mainGlobals "inner_selectors" = some (some (.ref finner_selectors)))
    (linner_selectors : K.lookup finner_selectors = some ⟨ocinner_selectors, odinner_selectors, .func (PySem.W.fnOf "inner_selectors" "inner_selectors" (defArgs s_inner_selectors) (defBody s_inner_selectors) (defScope s_inner_selectors) .none kVinner_selectors dcinner_selectors pminner_selectors aninner_selectors cdinner_selectors ctinner_selectors), slinner_selectors⟩)
    (cinner_selectors : PySem.W.codeIn K cdinner_selectors "inner_selectors" = true)
    (kinner_selectors : PySem.W.keepIn K (.ref finner_selectors) = true)
    (ais_part : PySem.W.nsIn K mainGlobals "is_part" = some (some (.ref fis_part)))
    (lis_part : K.lookup fis_part = some ⟨ocis_part, odis_part, .func (PySem.W.fnOf "is_part" "is_part" (defArgs s_is_part) (defBody s_is_part) (defScope s_is_part) .none kVis_part dcis_part pmis_part anis_part cdis_part ctis_part), slis_part⟩)
    (cis_part : PySem.W.codeIn K cdis_part "is_part" = true)
    (kis_part : PySem.W.keepIn K (.ref fis_part) = true)
    (ais_selector : PySem.W.nsIn K mainGlobals "is_selector" = some (some (.ref fis_selector)))
    (lis_selector : K.lookup fis_selector = some ⟨ocis_selector, odis_selector, .func (PySem.W.fnOf "is_selector" "is_selector" (defArgs s_is_selector) (defBody s_is_selector) (defScope s_is_selector) .none kVis_selector dcis_selector pmis_selector anis_selector cdis_selector ctis_selector), slis_selector⟩)
    (cis_selector : PySem.W.codeIn K cdis_selector "is_selector" = true)
    (kis_selector : PySem.W.keepIn K (.ref fis_selector) = true)
    (acheck_series : PySem.W.nsIn K mainGlobals "check_series" = some (some (.ref fcheck_series)))
    (lcheck_series : K.lookup fcheck_series = some ⟨occheck_series, odcheck_series, .func (PySem.W.fnOf "check_series" "check_series" (defArgs s_check_series) (defBody s_check_series) (defScope s_check_series) .none kVcheck_series dccheck_series pmcheck_series ancheck_series cdcheck_series ctcheck_series), slcheck_series⟩)
    (ccheck_series : PySem.W.codeIn K cdcheck_series "check_series" = true)
    (kcheck_series : PySem.W.keepIn K (.ref fcheck_series) = true)
    (acheck_selector : PySem.W.nsIn K mainGlobals "check_selector" = some (some (.ref fcheck_selector)))
    (lcheck_selector : K.lookup fcheck_selector = some ⟨occheck_selector, odcheck_selector, .func (PySem.W.fnOf "check_selector" "check_selector" (defArgs s_check_selector) (defBody s_check_selector) (defScope s_check_selector) .none kVcheck_selector dccheck_selector pmcheck_selector ancheck_selector cdcheck_selector ctcheck_selector), slcheck_selector⟩)
    (ccheck_selector : PySem.W.codeIn K cdcheck_selector "check_selector" = true)
    (kcheck_selector : PySem.W.keepIn K (.ref fcheck_selector) = true)
    (aholds : PySem.W.nsIn K mainGlobals "holds" = some (some (.ref fholds)))
    (lholds : K.lookup fholds = some ⟨ocholds, odholds, .func (PySem.W.fnOf "holds" "holds" (defArgs s_holds) (defBody s_holds) (defScope s_holds) .none kVholds dcholds pmholds anholds cdholds ctholds), slholds⟩)
    (cholds : PySem.W.codeIn K cdholds "holds" = true)
    (kholds : PySem.W.keepIn K (.ref fholds) = true)
    (alabels_of : PySem.W.nsIn K mainGlobals "labels_of" = some (some (.ref flabels_of)))
    (llabels_of : K.lookup flabels_of = some ⟨oclabels_of, odlabels_of, .func (PySem.W.fnOf "labels_of" "labels_of" (defArgs s_labels_of) (defBody s_labels_of) (defScope s_labels_of) .none kVlabels_of dclabels_of pmlabels_of anlabels_of cdlabels_of ctlabels_of), sllabels_of⟩)
    (clabels_of : PySem.W.codeIn K cdlabels_of "labels_of" = true)
    (klabels_of : PySem.W.keepIn K (.ref flabels_of) = true)
    (afits : PySem.W.nsIn K mainGlobals "fits" = some (some (.ref ffits)))
    (lfits : K.lookup ffits = some ⟨ocfits, odfits, .func (PySem.W.fnOf "fits" "fits" (defArgs s_fits) (defBody s_fits) (defScope s_fits) .none kVfits dcfits pmfits anfits cdfits ctfits), slfits⟩)
    (cfits : PySem.W.codeIn K cdfits "fits" = true)
    (kfits : PySem.W.keepIn K (.ref ffits) = true)
    (ap_law_dealer : PySem.W.nsIn K mainGlobals "_law_dealer" = some (some (.ref fp_law_dealer)))
    (lp_law_dealer : K.lookup fp_law_dealer = some ⟨ocp_law_dealer, odp_law_dealer, .func (PySem.W.fnOf "_law_dealer" "_law_dealer" (defArgs s_p_law_dealer) (defBody s_p_law_dealer) (defScope s_p_law_dealer) .none kVp_law_dealer dcp_law_dealer pmp_law_dealer anp_law_dealer cdp_law_dealer ctp_law_dealer), slp_law_dealer⟩)
    (cp_law_dealer : PySem.W.codeIn K cdp_law_dealer "_law_dealer" = true)
    (kp_law_dealer : PySem.W.keepIn K (.ref fp_law_dealer) = true)
    (ap_law_deal : PySem.W.nsIn K mainGlobals "_law_deal" = some (some (.ref fp_law_deal)))
    (lp_law_deal : K.lookup fp_law_deal = some ⟨ocp_law_deal, odp_law_deal, .func (PySem.W.fnOf "_law_deal" "_law_deal" (defArgs s_p_law_deal) (defBody s_p_law_deal) (defScope s_p_law_deal) .none kVp_law_deal dcp_law_deal pmp_law_deal anp_law_deal cdp_law_deal ctp_law_deal), slp_law_deal⟩)
    (cp_law_deal : PySem.W.codeIn K cdp_law_deal "_law_deal" = true)
    (kp_law_deal : PySem.W.keepIn K (.ref fp_law_deal) = true)
    (ap_law_one : PySem.W.nsIn K mainGlobals "_law_one" = some (some (.ref fp_law_one)))
    (lp_law_one : K.lookup fp_law_one = some ⟨ocp_law_one, odp_law_one, .func (PySem.W.fnOf "_law_one" "_law_one" (defArgs s_p_law_one) (defBody s_p_law_one) (defScope s_p_law_one) .none kVp_law_one dcp_law_one pmp_law_one anp_law_one cdp_law_one ctp_law_one), slp_law_one⟩)
    (cp_law_one : PySem.W.codeIn K cdp_law_one "_law_one" = true)
    (kp_law_one : PySem.W.keepIn K (.ref fp_law_one) = true)
    (ap_law_name : PySem.W.nsIn K mainGlobals "_law_name" = some (some (.ref fp_law_name)))
    (lp_law_name : K.lookup fp_law_name = some ⟨ocp_law_name, odp_law_name, .func (PySem.W.fnOf "_law_name" "_law_name" (defArgs s_p_law_name) (defBody s_p_law_name) (defScope s_p_law_name) .none kVp_law_name dcp_law_name pmp_law_name anp_law_name cdp_law_name ctp_law_name), slp_law_name⟩)
    (cp_law_name : PySem.W.codeIn K cdp_law_name "_law_name" = true)
    (kp_law_name : PySem.W.keepIn K (.ref fp_law_name) = true)
    (ap_law_kin : PySem.W.nsIn K mainGlobals "_law_kin" = some (some (.ref fp_law_kin)))
    (lp_law_kin : K.lookup fp_law_kin = some ⟨ocp_law_kin, odp_law_kin, .func (PySem.W.fnOf "_law_kin" "_law_kin" (defArgs s_p_law_kin) (defBody s_p_law_kin) (defScope s_p_law_kin) .none kVp_law_kin dcp_law_kin pmp_law_kin anp_law_kin cdp_law_kin ctp_law_kin), slp_law_kin⟩)
    (cp_law_kin : PySem.W.codeIn K cdp_law_kin "_law_kin" = true)
    (kp_law_kin : PySem.W.keepIn K (.ref fp_law_kin) = true)
    (ap_law_pool : PySem.W.nsIn K mainGlobals "_law_pool" = some (some (.ref fp_law_pool)))
    (lp_law_pool : K.lookup fp_law_pool = some ⟨ocp_law_pool, odp_law_pool, .func (PySem.W.fnOf "_law_pool" "_law_pool" (defArgs s_p_law_pool) (defBody s_p_law_pool) (defScope s_p_law_pool) .none kVp_law_pool dcp_law_pool pmp_law_pool anp_law_pool cdp_law_pool ctp_law_pool), slp_law_pool⟩)
    (cp_law_pool : PySem.W.codeIn K cdp_law_pool "_law_pool" = true)
    (kp_law_pool : PySem.W.keepIn K (.ref fp_law_pool) = true)
    (ap_law_values : PySem.W.nsIn K mainGlobals "_law_values" = some (some (.ref fp_law_values)))
    (lp_law_values : K.lookup fp_law_values = some ⟨ocp_law_values, odp_law_values, .func (PySem.W.fnOf "_law_values" "_law_values" (defArgs s_p_law_values) (defBody s_p_law_values) (defScope s_p_law_values) .none kVp_law_values dcp_law_values pmp_law_values anp_law_values cdp_law_values ctp_law_values), slp_law_values⟩)
    (cp_law_values : PySem.W.codeIn K cdp_law_values "_law_values" = true)
    (kp_law_values : PySem.W.keepIn K (.ref fp_law_values) = true)
    (ap_law_leaf : PySem.W.nsIn K mainGlobals "_law_leaf" = some (some (.ref fp_law_leaf)))
    (lp_law_leaf : K.lookup fp_law_leaf = some ⟨ocp_law_leaf, odp_law_leaf, .func (PySem.W.fnOf "_law_leaf" "_law_leaf" (defArgs s_p_law_leaf) (defBody s_p_law_leaf) (defScope s_p_law_leaf) .none kVp_law_leaf dcp_law_leaf pmp_law_leaf anp_law_leaf cdp_law_leaf ctp_law_leaf), slp_law_leaf⟩)
    (cp_law_leaf : PySem.W.codeIn K cdp_law_leaf "_law_leaf" = true)
    (kp_law_leaf : PySem.W.keepIn K (.ref fp_law_leaf) = true)
    (ap_law_selector : PySem.W.nsIn K mainGlobals "_law_selector" = some (some (.ref fp_law_selector)))
    (lp_law_selector : K.lookup fp_law_selector = some ⟨ocp_law_selector, odp_law_selector, .func (PySem.W.fnOf "_law_selector" "_law_selector" (defArgs s_p_law_selector) (defBody s_p_law_selector) (defScope s_p_law_selector) .none kVp_law_selector dcp_law_selector pmp_law_selector anp_law_selector cdp_law_selector ctp_law_selector), slp_law_selector⟩)
    (cp_law_selector : PySem.W.codeIn K cdp_law_selector "_law_selector" = true)
    (kp_law_selector : PySem.W.keepIn K (.ref fp_law_selector) = true)
    (ap_law_fits : PySem.W.nsIn K mainGlobals "_law_fits" = some (some (.ref fp_law_fits)))
    (lp_law_fits : K.lookup fp_law_fits = some ⟨ocp_law_fits, odp_law_fits, .func (PySem.W.fnOf "_law_fits" "_law_fits" (defArgs s_p_law_fits) (defBody s_p_law_fits) (defScope s_p_law_fits) .none kVp_law_fits dcp_law_fits pmp_law_fits anp_law_fits cdp_law_fits ctp_law_fits), slp_law_fits⟩)
    (cp_law_fits : PySem.W.codeIn K cdp_law_fits "_law_fits" = true)
    (kp_law_fits : PySem.W.keepIn K (.ref fp_law_fits) = true)
    (ap_law_series : PySem.W.nsIn K mainGlobals "_law_series" = some (some (.ref fp_law_series)))
    (lp_law_series : K.lookup fp_law_series = some ⟨ocp_law_series, odp_law_series, .func (PySem.W.fnOf "_law_series" "_law_series" (defArgs s_p_law_series) (defBody s_p_law_series) (defScope s_p_law_series) .none kVp_law_series dcp_law_series pmp_law_series anp_law_series cdp_law_series ctp_law_series), slp_law_series⟩)
    (cp_law_series : PySem.W.codeIn K cdp_law_series "_law_series" = true)
    (kp_law_series : PySem.W.keepIn K (.ref fp_law_series) = true)
    (alaw : PySem.W.nsIn K mainGlobals "law" = some (some (.ref flaw)))
    (llaw : K.lookup flaw = some ⟨oclaw, odlaw, .func (PySem.W.fnOf "law" "law" (defArgs s_law) (defBody s_law) (defScope s_law) .none kVlaw dclaw pmlaw anlaw cdlaw ctlaw), sllaw⟩)
    (claw : PySem.W.codeIn K cdlaw "law" = true)
    (klaw : PySem.W.keepIn K (.ref flaw) = true)
    (zbool : PySem.W.nsIn K mainGlobals "bool" = some none)
    (zint : PySem.W.nsIn K mainGlobals "int" = some none)
    (zisinstance : PySem.W.nsIn K mainGlobals "isinstance" = some none)
    (zlen : PySem.W.nsIn K mainGlobals "len" = some none)
    (zrange : PySem.W.nsIn K mainGlobals "range" = some none)
    (zset : PySem.W.nsIn K mainGlobals "set" = some none)
    (zsorted : PySem.W.nsIn K mainGlobals "sorted" = some none)
    (zstr : PySem.W.nsIn K mainGlobals "str" = some none)
    (ztuple : PySem.W.nsIn K mainGlobals "tuple" = some none)
    (aAND : PySem.W.nsIn K mainGlobals "AND" = some (some (.str "and" tAND)))
    (aANY : PySem.W.nsIn K mainGlobals "ANY" = some (some (.str "any" tANY)))
    (aHAS : PySem.W.nsIn K mainGlobals "HAS" = some (some (.str "has" tHAS)))
    (aIS : PySem.W.nsIn K mainGlobals "IS" = some (some (.str "is" tIS)))
    (aLENGTHS : PySem.W.nsIn K mainGlobals "LENGTHS" = some (some (.ref fLENGTHS)))
    (lLENGTHS : K.lookup fLENGTHS = some ⟨.type "dict", none, .dict esLENGTHS nLENGTHS, #[]⟩)
    (wLENGTHS : WEs w.params esLENGTHS.toList [("any", 1), ("is", 3), ("has", 2), ("not", 2), ("and", 3), ("or", 3)])
    (sLENGTHS : (fLENGTHS == sysModules) = false)
    (aMOST_PARTS : PySem.W.nsIn K mainGlobals "MOST_PARTS" = some (some (.int 60 tMOST_PARTS)))
    (aNAME_SIGNS : PySem.W.nsIn K mainGlobals "NAME_SIGNS" = some (some (.str "abcdefghijklmnopqrstuvwxyzABCDEFGHIJKLMNOPQRSTUVWXYZ0123456789_" tNAME_SIGNS)))
    (aNOT : PySem.W.nsIn K mainGlobals "NOT" = some (some (.str "not" tNOT)))
    (aOR : PySem.W.nsIn K mainGlobals "OR" = some (some (.str "or" tOR)))
    (aSMALL : PySem.W.nsIn K mainGlobals "SMALL" = some (some (.str "abcdefghijklmnopqrstuvwxyz" tSMALL))) :
    ∃ fd : FuncData, (∀ (s : Shared) (v : Value), BindsTo s fd ⟨[v], []⟩ [("script", v)]) ∧ ∀ base : Heap, K.In base → base.Ns mainGlobals mg → FnOk l.prog w K mg base CX0 75 fa fd ["script"] (spLaw K) := by
  have e : flaw = fa := by
    have e := (PySem.W.mg_of X G alaw).symm.trans hfa
    injection e with e
    injection e
  subst e
  let T : Txt K w mg := ⟨(fis_name), (PySem.W.fnOf "is_name" "is_name" (defArgs s_is_name) (defBody s_is_name) (defScope s_is_name) .none kVis_name dcis_name pmis_name anis_name cdis_name ctis_name), (fun_mk lis_name cis_name kis_name), (PySem.W.mg_of X G ais_name), (fis_ascending), (PySem.W.fnOf "is_ascending" "is_ascending" (defArgs s_is_ascending) (defBody s_is_ascending) (defScope s_is_ascending) .none kVis_ascending dcis_ascending pmis_ascending anis_ascending cdis_ascending ctis_ascending), (fun_mk lis_ascending cis_ascending kis_ascending), (PySem.W.mg_of X G ais_ascending), (fis_row_of_names), (PySem.W.fnOf "is_row_of_names" "is_row_of_names" (defArgs s_is_row_of_names) (defBody s_is_row_of_names) (defScope s_is_row_of_names) .none kVis_row_of_names dcis_row_of_names pmis_row_of_names anis_row_of_names cdis_row_of_names ctis_row_of_names), (fun_mk lis_row_of_names cis_row_of_names kis_row_of_names), (PySem.W.mg_of X G ais_row_of_names), (fis_pair_of_names), (PySem.W.fnOf "is_pair_of_names" "is_pair_of_names" (defArgs s_is_pair_of_names) (defBody s_is_pair_of_names) (defScope s_is_pair_of_names) .none kVis_pair_of_names dcis_pair_of_names pmis_pair_of_names anis_pair_of_names cdis_pair_of_names ctis_pair_of_names), (fun_mk lis_pair_of_names cis_pair_of_names kis_pair_of_names), (PySem.W.mg_of X G ais_pair_of_names), (fis_series), (PySem.W.fnOf "is_series" "is_series" (defArgs s_is_series) (defBody s_is_series) (defScope s_is_series) .none kVis_series dcis_series pmis_series anis_series cdis_series ctis_series), (fun_mk lis_series cis_series kis_series), (PySem.W.mg_of X G ais_series), (finner_selectors), (PySem.W.fnOf "inner_selectors" "inner_selectors" (defArgs s_inner_selectors) (defBody s_inner_selectors) (defScope s_inner_selectors) .none kVinner_selectors dcinner_selectors pminner_selectors aninner_selectors cdinner_selectors ctinner_selectors), (fun_mk linner_selectors cinner_selectors kinner_selectors), (PySem.W.mg_of X G ainner_selectors), (fis_part), (PySem.W.fnOf "is_part" "is_part" (defArgs s_is_part) (defBody s_is_part) (defScope s_is_part) .none kVis_part dcis_part pmis_part anis_part cdis_part ctis_part), (fun_mk lis_part cis_part kis_part), (PySem.W.mg_of X G ais_part), (fis_selector), (PySem.W.fnOf "is_selector" "is_selector" (defArgs s_is_selector) (defBody s_is_selector) (defScope s_is_selector) .none kVis_selector dcis_selector pmis_selector anis_selector cdis_selector ctis_selector), (fun_mk lis_selector cis_selector kis_selector), (PySem.W.mg_of X G ais_selector), (fcheck_series), (PySem.W.fnOf "check_series" "check_series" (defArgs s_check_series) (defBody s_check_series) (defScope s_check_series) .none kVcheck_series dccheck_series pmcheck_series ancheck_series cdcheck_series ctcheck_series), (fun_mk lcheck_series ccheck_series kcheck_series), (PySem.W.mg_of X G acheck_series), (fcheck_selector), (PySem.W.fnOf "check_selector" "check_selector" (defArgs s_check_selector) (defBody s_check_selector) (defScope s_check_selector) .none kVcheck_selector dccheck_selector pmcheck_selector ancheck_selector cdcheck_selector ctcheck_selector), (fun_mk lcheck_selector ccheck_selector kcheck_selector), (PySem.W.mg_of X G acheck_selector), (fholds), (PySem.W.fnOf "holds" "holds" (defArgs s_holds) (defBody s_holds) (defScope s_holds) .none kVholds dcholds pmholds anholds cdholds ctholds), (fun_mk lholds cholds kholds), (PySem.W.mg_of X G aholds), (flabels_of), (PySem.W.fnOf "labels_of" "labels_of" (defArgs s_labels_of) (defBody s_labels_of) (defScope s_labels_of) .none kVlabels_of dclabels_of pmlabels_of anlabels_of cdlabels_of ctlabels_of), (fun_mk llabels_of clabels_of klabels_of), (PySem.W.mg_of X G alabels_of), (ffits), (PySem.W.fnOf "fits" "fits" (defArgs s_fits) (defBody s_fits) (defScope s_fits) .none kVfits dcfits pmfits anfits cdfits ctfits), (fun_mk lfits cfits kfits), (PySem.W.mg_of X G afits), (fp_law_dealer), (PySem.W.fnOf "_law_dealer" "_law_dealer" (defArgs s_p_law_dealer) (defBody s_p_law_dealer) (defScope s_p_law_dealer) .none kVp_law_dealer dcp_law_dealer pmp_law_dealer anp_law_dealer cdp_law_dealer ctp_law_dealer), (fun_mk lp_law_dealer cp_law_dealer kp_law_dealer), (PySem.W.mg_of X G ap_law_dealer), (fp_law_deal), (PySem.W.fnOf "_law_deal" "_law_deal" (defArgs s_p_law_deal) (defBody s_p_law_deal) (defScope s_p_law_deal) .none kVp_law_deal dcp_law_deal pmp_law_deal anp_law_deal cdp_law_deal ctp_law_deal), (fun_mk lp_law_deal cp_law_deal kp_law_deal), (PySem.W.mg_of X G ap_law_deal), (fp_law_one), (PySem.W.fnOf "_law_one" "_law_one" (defArgs s_p_law_one) (defBody s_p_law_one) (defScope s_p_law_one) .none kVp_law_one dcp_law_one pmp_law_one anp_law_one cdp_law_one ctp_law_one), (fun_mk lp_law_one cp_law_one kp_law_one), (PySem.W.mg_of X G ap_law_one), (fp_law_name), (PySem.W.fnOf "_law_name" "_law_name" (defArgs s_p_law_name) (defBody s_p_law_name) (defScope s_p_law_name) .none kVp_law_name dcp_law_name pmp_law_name anp_law_name cdp_law_name ctp_law_name), (fun_mk lp_law_name cp_law_name kp_law_name), (PySem.W.mg_of X G ap_law_name), (fp_law_kin), (PySem.W.fnOf "_law_kin" "_law_kin" (defArgs s_p_law_kin) (defBody s_p_law_kin) (defScope s_p_law_kin) .none kVp_law_kin dcp_law_kin pmp_law_kin anp_law_kin cdp_law_kin ctp_law_kin), (fun_mk lp_law_kin cp_law_kin kp_law_kin), (PySem.W.mg_of X G ap_law_kin), (fp_law_pool), (PySem.W.fnOf "_law_pool" "_law_pool" (defArgs s_p_law_pool) (defBody s_p_law_pool) (defScope s_p_law_pool) .none kVp_law_pool dcp_law_pool pmp_law_pool anp_law_pool cdp_law_pool ctp_law_pool), (fun_mk lp_law_pool cp_law_pool kp_law_pool), (PySem.W.mg_of X G ap_law_pool), (fp_law_values), (PySem.W.fnOf "_law_values" "_law_values" (defArgs s_p_law_values) (defBody s_p_law_values) (defScope s_p_law_values) .none kVp_law_values dcp_law_values pmp_law_values anp_law_values cdp_law_values ctp_law_values), (fun_mk lp_law_values cp_law_values kp_law_values), (PySem.W.mg_of X G ap_law_values), (fp_law_leaf), (PySem.W.fnOf "_law_leaf" "_law_leaf" (defArgs s_p_law_leaf) (defBody s_p_law_leaf) (defScope s_p_law_leaf) .none kVp_law_leaf dcp_law_leaf pmp_law_leaf anp_law_leaf cdp_law_leaf ctp_law_leaf), (fun_mk lp_law_leaf cp_law_leaf kp_law_leaf), (PySem.W.mg_of X G ap_law_leaf), (fp_law_selector), (PySem.W.fnOf "_law_selector" "_law_selector" (defArgs s_p_law_selector) (defBody s_p_law_selector) (defScope s_p_law_selector) .none kVp_law_selector dcp_law_selector pmp_law_selector anp_law_selector cdp_law_selector ctp_law_selector), (fun_mk lp_law_selector cp_law_selector kp_law_selector), (PySem.W.mg_of X G ap_law_selector), (fp_law_fits), (PySem.W.fnOf "_law_fits" "_law_fits" (defArgs s_p_law_fits) (defBody s_p_law_fits) (defScope s_p_law_fits) .none kVp_law_fits dcp_law_fits pmp_law_fits anp_law_fits cdp_law_fits ctp_law_fits), (fun_mk lp_law_fits cp_law_fits kp_law_fits), (PySem.W.mg_of X G ap_law_fits), (fp_law_series), (PySem.W.fnOf "_law_series" "_law_series" (defArgs s_p_law_series) (defBody s_p_law_series) (defScope s_p_law_series) .none kVp_law_series dcp_law_series pmp_law_series anp_law_series cdp_law_series ctp_law_series), (fun_mk lp_law_series cp_law_series kp_law_series), (PySem.W.mg_of X G ap_law_series), (flaw), (PySem.W.fnOf "law" "law" (defArgs s_law) (defBody s_law) (defScope s_law) .none kVlaw dclaw pmlaw anlaw cdlaw ctlaw), (fun_mk llaw claw klaw), (PySem.W.mg_of X G alaw), (PySem.W.mg_none_of X G zbool), (PySem.W.mg_none_of X G zint), (PySem.W.mg_none_of X G zisinstance), (PySem.W.mg_none_of X G zlen), (PySem.W.mg_none_of X G zrange), (PySem.W.mg_none_of X G zset), (PySem.W.mg_none_of X G zsorted), (PySem.W.mg_none_of X G zstr), (PySem.W.mg_none_of X G ztuple), (tAND), (PySem.W.mg_of X G aAND), (tANY), (PySem.W.mg_of X G aANY), (tHAS), (PySem.W.mg_of X G aHAS), (tIS), (PySem.W.mg_of X G aIS), (fLENGTHS), (PySem.W.mg_of X G aLENGTHS), (wdic_of lLENGTHS wLENGTHS sLENGTHS), (tMOST_PARTS), (PySem.W.mg_of X G aMOST_PARTS), (tNAME_SIGNS), (PySem.W.mg_of X G aNAME_SIGNS), (tNOT), (PySem.W.mg_of X G aNOT), (tOR), (PySem.W.mg_of X G aOR), (tSMALL), (PySem.W.mg_of X G aSMALL)⟩
  exact ⟨T.law_fd, fun s v => .of_eq rfl, fun base _ _ => law_of (ok_law T) law_true⟩
end K04
open PySem PySem.W PyProof.Rows L2 DL
set_option maxHeartbeats 0 in
theorem PySem.Challenge.cw_stillanswered_k04_fits_holds : PySem.Challenge.rw_stillanswered_k04_fits.Holds := by
  w_on; o_law; k_head; (case hw => w_witness2)
  k_fill
  refine L2.walk_of (l := PySem.Challenge.rw_stillanswered_k04_fits) (n := 63) (k := 75) (x := "script") (CX := fun _ => L2.CX0) (sp := fun w => DL.spLaw _) rfl (by decide) rfl ⟨rfl, by decide, by decide⟩ (fun w h Y => PySem.W.kIn_of Y) ?F (fun _ _ a ns hl _ hS => ⟨a, ns, rfl, hS, hl, fun _ => rfl⟩) (fun _ _ _ _ _ h => h)
  case F =>
    intro w mg fa h KX G hmg
    refine' K04.all_mk KX G hmg ?ais_name ?lis_name ?cis_name ?kis_name ?ais_ascending ?lis_ascending ?cis_ascending ?kis_ascending ?ais_row_of_names ?lis_row_of_names ?cis_row_of_names ?kis_row_of_names ?ais_pair_of_names ?lis_pair_of_names ?cis_pair_of_names ?kis_pair_of_names ?ais_series ?lis_series ?cis_series ?kis_series ?ainner_selectors ?linner_selectors ?cinner_selectors ?kinner_selectors ?ais_part ?lis_part ?cis_part ?kis_part ?ais_selector ?lis_selector ?cis_selector ?kis_selector ?acheck_series ?lcheck_series ?ccheck_series ?kcheck_series ?acheck_selector ?lcheck_selector ?ccheck_selector ?kcheck_selector ?aholds ?lholds ?cholds ?kholds ?alabels_of ?llabels_of ?clabels_of ?klabels_of ?afits ?lfits ?cfits ?kfits ?ap_law_dealer ?lp_law_dealer ?cp_law_dealer ?kp_law_dealer ?ap_law_deal ?lp_law_deal ?cp_law_deal ?kp_law_deal ?ap_law_one ?lp_law_one ?cp_law_one ?kp_law_one ?ap_law_name ?lp_law_name ?cp_law_name ?kp_law_name ?ap_law_kin ?lp_law_kin ?cp_law_kin ?kp_law_kin ?ap_law_pool ?lp_law_pool ?cp_law_pool ?kp_law_pool ?ap_law_values ?lp_law_values ?cp_law_values ?kp_law_values ?ap_law_leaf ?lp_law_leaf ?cp_law_leaf ?kp_law_leaf ?ap_law_selector ?lp_law_selector ?cp_law_selector ?kp_law_selector ?ap_law_fits ?lp_law_fits ?cp_law_fits ?kp_law_fits ?ap_law_series ?lp_law_series ?cp_law_series ?kp_law_series ?alaw ?llaw ?claw ?klaw ?zbool ?zint ?zisinstance ?zlen ?zrange ?zset ?zsorted ?zstr ?ztuple ?aAND ?aANY ?aHAS ?aIS ?aLENGTHS ?lLENGTHS ?wLENGTHS ?sLENGTHS ?aMOST_PARTS ?aNAME_SIGNS ?aNOT ?aOR ?aSMALL
    (case ais_name => k_is)
    (case lis_name => k_is)
    (case cis_name => k_is)
    (case kis_name => k_is)
    (case ais_ascending => k_is)
    (case lis_ascending => k_is)
    (case cis_ascending => k_is)
    (case kis_ascending => k_is)
    (case ais_row_of_names => k_is)
    (case lis_row_of_names => k_is)
    (case cis_row_of_names => k_is)
    (case kis_row_of_names => k_is)
    (case ais_pair_of_names => k_is)
    (case lis_pair_of_names => k_is)
    (case cis_pair_of_names => k_is)
    (case kis_pair_of_names => k_is)
    (case ais_series => k_is)
    (case lis_series => k_is)
    (case cis_series => k_is)
    (case kis_series => k_is)
    (case ainner_selectors => k_is)
    (case linner_selectors => k_is)
    (case cinner_selectors => k_is)
    (case kinner_selectors => k_is)
    (case ais_part => k_is)
    (case lis_part => k_is)
    (case cis_part => k_is)
    (case kis_part => k_is)
    (case ais_selector => k_is)
    (case lis_selector => k_is)
    (case cis_selector => k_is)
    (case kis_selector => k_is)
    (case acheck_series => k_is)
    (case lcheck_series => k_is)
    (case ccheck_series => k_is)
    (case kcheck_series => k_is)
    (case acheck_selector => k_is)
    (case lcheck_selector => k_is)
    (case ccheck_selector => k_is)
    (case kcheck_selector => k_is)
    (case aholds => k_is)
    (case lholds => k_is)
    (case cholds => k_is)
    (case kholds => k_is)
    (case alabels_of => k_is)
    (case llabels_of => k_is)
    (case clabels_of => k_is)
    (case klabels_of => k_is)
    (case afits => k_is)
    (case lfits => k_is)
    (case cfits => k_is)
    (case kfits => k_is)
    (case ap_law_dealer => k_is)
    (case lp_law_dealer => k_is)
    (case cp_law_dealer => k_is)
    (case kp_law_dealer => k_is)
    (case ap_law_deal => k_is)
    (case lp_law_deal => k_is)
    (case cp_law_deal => k_is)
    (case kp_law_deal => k_is)
    (case ap_law_one => k_is)
    (case lp_law_one => k_is)
    (case cp_law_one => k_is)
    (case kp_law_one => k_is)
    (case ap_law_name => k_is)
    (case lp_law_name => k_is)
    (case cp_law_name => k_is)
    (case kp_law_name => k_is)
    (case ap_law_kin => k_is)
    (case lp_law_kin => k_is)
    (case cp_law_kin => k_is)
    (case kp_law_kin => k_is)
    (case ap_law_pool => k_is)
    (case lp_law_pool => k_is)
    (case cp_law_pool => k_is)
    (case kp_law_pool => k_is)
    (case ap_law_values => k_is)
    (case lp_law_values => k_is)
    (case cp_law_values => k_is)
    (case kp_law_values => k_is)
    (case ap_law_leaf => k_is)
    (case lp_law_leaf => k_is)
    (case cp_law_leaf => k_is)
    (case kp_law_leaf => k_is)
    (case ap_law_selector => k_is)
    (case lp_law_selector => k_is)
    (case cp_law_selector => k_is)
    (case kp_law_selector => k_is)
    (case ap_law_fits => k_is)
    (case lp_law_fits => k_is)
    (case cp_law_fits => k_is)
    (case kp_law_fits => k_is)
    (case ap_law_series => k_is)
    (case lp_law_series => k_is)
    (case cp_law_series => k_is)
    (case kp_law_series => k_is)
    (case alaw => k_is)
    (case llaw => k_is)
    (case claw => k_is)
    (case klaw => k_is)
    (case zbool => k_is)
    (case zint => k_is)
    (case zisinstance => k_is)
    (case zlen => k_is)
    (case zrange => k_is)
    (case zset => k_is)
    (case zsorted => k_is)
    (case zstr => k_is)
    (case ztuple => k_is)
    (case aAND => k_is)
    (case aANY => k_is)
    (case aHAS => k_is)
    (case aIS => k_is)
    (case aLENGTHS => k_is)
    (case lLENGTHS => k_is)
    (case wLENGTHS => exact .cons rfl rfl rfl (.cons rfl rfl rfl (.cons rfl rfl rfl (.cons rfl rfl rfl (.cons rfl rfl rfl (.cons rfl rfl rfl (.nil)))))))
    (case sLENGTHS => exact rfl)
    (case aMOST_PARTS => k_is)
    (case aNAME_SIGNS => k_is)
    (case aNOT => k_is)
    (case aOR => k_is)
    (case aSMALL => k_is)
