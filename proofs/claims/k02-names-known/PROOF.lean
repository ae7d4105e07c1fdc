import PyProof.Rows.All
import Wide.All
import OpenK.AllK
import Wide.FinOn
import HandS.ForMost
import HandS.ForExc
import HandS.Flow
import HandS.IsInst
import HandS.Walk
import HandS.Defaults
import HandS.TupAny
import HandS.Zip
import HandS.Small
import HandS.Style
import HandS.EndBits
import PySem.Challenge.RW_frozenmakers_k02_names_known
set_option Elab.async false
set_option linter.all false
set_option maxRecDepth 100000
set_option maxHeartbeats 4000000
/-! Part 1: values by themselves (AV), mutable objects by number (AObj), and how they lie in the layer's heap. -/
namespace Zk
open PySem L2

/-- a value: tuples, unchanged lists and dicts by what they hold; what may change by its number -/
inductive AV where
  | non | bl (b : Bool) | int (i : Int) | str (s : Str)
  | tup (xs : List AV) | lst (xs : List AV) | dct (ks : List Key) (vs : List AV)
  | ref (i : Nat) | glob (x : Str) | ty (n : String)
  deriving Inhabited
/-- an object that may change -/
inductive AObj where
  | lst (xs : List AV) | dct (ks : List Key) (vs : List AV) | ins (c : Str) (fs : List (Str × AV))
  deriving Inhabited
abbrev AH := List AObj
abbrev Fg := PySem.W.Frag

/-- where things lie: the numbered objects; the lists and dicts that are being made -/
structure Mp where
  n : List Addr
  g : List Addr
/-- a thing that is none of these -/
def Mp.out (ι : Mp) (a : Addr) : Prop := a ∉ ι.n ∧ a ∉ ι.g
/-- a tuple, list of the written part -/
def KT (K : Fg) (a : Addr) (vs : List V) : Prop := SqT K (fun _ => none) a vs
def KL (K : Fg) (a : Addr) (vs : List V) : Prop := SqL K (fun _ => none) a vs
theorem KT.sq {K : Fg} {a : Addr} {vs : List V} (h : KT K a vs) (H : Hp) : SqT K H a vs := by
  rcases h with (h | ⟨o, h⟩) | h
  · cases h
  · cases h
  · exact .inr h
theorem KL.sq {K : Fg} {a : Addr} {vs : List V} (h : KL K a vs) (H : Hp) : SqL K H a vs := by
  rcases h with (h | ⟨o, h⟩) | h
  · cases h
  · cases h
  · exact .inr h
/-- what stands still: it is no numbered object, or it is of the written part -/
def FzT (K : Fg) (ι : Mp) (H : Hp) (a : Addr) (vs : List V) : Prop := (Rd H a (.tup vs) ∧ ι.out a) ∨ KT K a vs
def FzL (K : Fg) (ι : Mp) (H : Hp) (a : Addr) (vs : List V) : Prop := (Rd H a (.lst vs) ∧ ι.out a) ∨ KL K a vs
def FzD (ι : Mp) (H : Hp) (a : Addr) (kvs : List (Key × V)) : Prop := Rd H a (.dK kvs) ∧ ι.out a

section
variable (K : Fg) (mg : Str → Option Value) (ι : Mp) (H : Hp)
mutual
inductive RV : AV → V → Prop where
  | non : RV .non .non
  | bl (b : Bool) : RV (.bl b) (.bl b)
  | int (i : Int) : RV (.int i) (.int i)
  | str (s : Str) : RV (.str s) (.str s)
  | tup {a vs xs} (h : FzT K ι H a vs) (r : RVs xs vs) : RV (.tup xs) (.ref a)
  | lst {a vs xs} (h : FzL K ι H a vs) (r : RVs xs vs) : RV (.lst xs) (.ref a)
  | dct {a ks vs xs} (h : FzD ι H a (ks.zip vs)) (hl : ks.length = vs.length) (hn : ks.Nodup) (r : RVs xs vs) : RV (.dct ks xs) (.ref a)
  | ref {i a} (h : ι.n[i]? = some a) : RV (.ref i) (.ref a)
  | glob {x a} (h : mg x = some (.ref a)) : RV (.glob x) (.ref a)
  | ty (n) : RV (.ty n) (.ty n)
inductive RVs : List AV → List V → Prop where
  | nil : RVs [] []
  | cons {x v xs vs} (h : RV x v) (t : RVs xs vs) : RVs (x :: xs) (v :: vs)
end
end

/-- what has become of the heap: numbered objects may have changed, new ones have come, the rest stands -/
structure Ext (ι : Mp) (H : Hp) (ι' : Mp) (H' : Hp) : Prop where
  pre : ∃ new, ι'.n = ι.n ++ new ∧ ∀ a ∈ new, H a = none
  gg : ι'.g = ι.g
  keep : ∀ b o, H b = some o → b ∉ ι.n → H' b = some o
  live : ∀ b, H' b = none → H b = none

theorem Ext.refl {ι : Mp} {H : Hp} : Ext ι H ι H := ⟨⟨[], by simp, by simp⟩, rfl, fun _ _ h _ => h, fun _ h => h⟩
theorem Ext.trans {ι ι1 ι2 : Mp} {H H1 H2 : Hp} (a : Ext ι H ι1 H1) (b : Ext ι1 H1 ι2 H2) : Ext ι H ι2 H2 := by
  obtain ⟨n1, e1, f1⟩ := a.pre
  obtain ⟨n2, e2, f2⟩ := b.pre
  refine ⟨⟨n1 ++ n2, by rw [e2, e1, List.append_assoc], fun x hx => ?_⟩, b.gg.trans a.gg, fun c o h hc => ?_, fun c h => a.live c (b.live c h)⟩
  · rcases List.mem_append.mp hx with hx | hx
    · exact f1 x hx
    · exact a.live x (f2 x hx)
  · refine b.keep c o (a.keep c o h hc) ?_
    rw [e1]
    intro hm
    rcases List.mem_append.mp hm with hm | hm
    · exact hc hm
    · rw [f1 c hm] at h; cases h
theorem Ext.rd {ι ι' : Mp} {H H' : Hp} (e : Ext ι H ι' H') {a : Addr} {u : HO} (h : Rd H a u) (ha : ι.out a) : Rd H' a u ∧ ι'.out a := by
  obtain ⟨n, en, f⟩ := e.pre
  have na : H a ≠ none := by
    rcases h with h | ⟨o, h⟩ <;> rw [h] <;> simp
  refine ⟨?_, fun hm => ?_, by rw [e.gg]; exact ha.2⟩
  · rcases h with h | ⟨o, h⟩
    · exact .inl (e.keep _ _ h ha.1)
    · exact .inr ⟨o, e.keep _ _ h ha.1⟩
  · rw [en] at hm
    rcases List.mem_append.mp hm with hm | hm
    · exact ha.1 hm
    · exact na (f a hm)
theorem Ext.get {ι ι' : Mp} {H H' : Hp} (e : Ext ι H ι' H') {i : Nat} {a : Addr} (h : ι.n[i]? = some a) : ι'.n[i]? = some a := by
  obtain ⟨n, en, _⟩ := e.pre
  obtain ⟨hl, _⟩ := List.getElem?_eq_some_iff.mp h
  rw [en, List.getElem?_append_left hl, h]

section
variable {K : Fg} {mg : Str → Option Value} {ι ι' : Mp} {H H' : Hp}
theorem FzT.ext {a : Addr} {vs : List V} (h : FzT K ι H a vs) (e : Ext ι H ι' H') : FzT K ι' H' a vs := h.elim (fun ⟨x, y⟩ => .inl (e.rd x y)) .inr
theorem FzL.ext {a : Addr} {vs : List V} (h : FzL K ι H a vs) (e : Ext ι H ι' H') : FzL K ι' H' a vs := h.elim (fun ⟨x, y⟩ => .inl (e.rd x y)) .inr
theorem FzD.ext {a : Addr} {kvs : List (Key × V)} (h : FzD ι H a kvs) (e : Ext ι H ι' H') : FzD ι' H' a kvs := e.rd h.1 h.2
theorem FzT.sq {a : Addr} {vs : List V} (h : FzT K ι H a vs) : SqT K H a vs := h.elim (fun x => .inl x.1) fun x => x.sq H
theorem FzL.sq {a : Addr} {vs : List V} (h : FzL K ι H a vs) : SqL K H a vs := h.elim (fun x => .inl x.1) fun x => x.sq H
mutual
theorem RV.ext (e : Ext ι H ι' H') : ∀ {x : AV} {v : V}, RV K mg ι H x v → RV K mg ι' H' x v
  | _, _, .non => .non
  | _, _, .bl b => .bl b
  | _, _, .int i => .int i
  | _, _, .str s => .str s
  | _, _, .tup h r => .tup (h.ext e) (RVs.ext e r)
  | _, _, .lst h r => .lst (h.ext e) (RVs.ext e r)
  | _, _, .dct h hl hn r => .dct (h.ext e) hl hn (RVs.ext e r)
  | _, _, .ref h => .ref (e.get h)
  | _, _, .glob h => .glob h
  | _, _, .ty n => .ty n
theorem RVs.ext (e : Ext ι H ι' H') : ∀ {xs : List AV} {vs : List V}, RVs K mg ι H xs vs → RVs K mg ι' H' xs vs
  | _, _, .nil => .nil
  | _, _, .cons h t => .cons (RV.ext e h) (RVs.ext e t)
end
theorem RVs.length : ∀ {xs : List AV} {vs : List V}, RVs K mg ι H xs vs → xs.length = vs.length
  | _, _, .nil => rfl
  | _, _, .cons _ t => congrArg (· + 1) (RVs.length t)
theorem RVs.get : ∀ {xs : List AV} {vs : List V} {i : Nat} {v : V}, RVs K mg ι H xs vs → vs[i]? = some v → ∃ x, xs[i]? = some x ∧ RV K mg ι H x v
  | _, _, _, _, .nil, h => by simp at h
  | _, _, 0, _, .cons h _, e => by simp at e; subst e; exact ⟨_, rfl, h⟩
  | _, _, i + 1, v, .cons _ t, e => by
    obtain ⟨x, h1, h2⟩ := RVs.get (i := i) t (by simpa using e)
    exact ⟨x, by simpa using h1, h2⟩
theorem RVs.getA : ∀ {xs : List AV} {vs : List V} {i : Nat} {x : AV}, RVs K mg ι H xs vs → xs[i]? = some x → ∃ v, vs[i]? = some v ∧ RV K mg ι H x v
  | _, _, _, _, .nil, h => by simp at h
  | _, _, 0, _, .cons h _, e => by simp at e; subst e; exact ⟨_, rfl, h⟩
  | _, _, i + 1, v, .cons _ t, e => by
    obtain ⟨x, h1, h2⟩ := RVs.getA (i := i) t (by simpa using e)
    exact ⟨x, by simpa using h1, h2⟩
theorem RVs.append : ∀ {xs ys : List AV} {vs ws : List V}, RVs K mg ι H xs vs → RVs K mg ι H ys ws → RVs K mg ι H (xs ++ ys) (vs ++ ws)
  | _, _, _, _, .nil, s => s
  | _, _, _, _, .cons h t, s => .cons h (RVs.append t s)
theorem RVs.take : ∀ {xs : List AV} {vs : List V} (n : Nat), RVs K mg ι H xs vs → RVs K mg ι H (xs.take n) (vs.take n)
  | _, _, 0, _ => .nil
  | _, _, _ + 1, .nil => .nil
  | _, _, n + 1, .cons h t => .cons h (RVs.take n t)
theorem RVs.drop : ∀ {xs : List AV} {vs : List V} (n : Nat), RVs K mg ι H xs vs → RVs K mg ι H (xs.drop n) (vs.drop n)
  | _, _, 0, r => r
  | _, _, _ + 1, .nil => .nil
  | _, _, n + 1, .cons _ t => RVs.drop n t
theorem RVs.eraseIdx : ∀ {xs : List AV} {vs : List V} (n : Nat), RVs K mg ι H xs vs → RVs K mg ι H (xs.eraseIdx n) (vs.eraseIdx n)
  | _, _, _, .nil => .nil
  | _, _, 0, .cons _ t => t
  | _, _, n + 1, .cons h t => .cons h (RVs.eraseIdx n t)
theorem RVs.set : ∀ {xs : List AV} {vs : List V} (n : Nat) {x : AV} {v : V}, RVs K mg ι H xs vs → RV K mg ι H x v → RVs K mg ι H (xs.set n x) (vs.set n v)
  | _, _, _, _, _, .nil, _ => .nil
  | _, _, 0, _, _, .cons _ t, h => .cons h t
  | _, _, n + 1, _, _, .cons h t, k => .cons h (RVs.set n t k)
theorem RVs.reverse : ∀ {xs : List AV} {vs : List V}, RVs K mg ι H xs vs → RVs K mg ι H xs.reverse vs.reverse
  | _, _, .nil => .nil
  | _, _, .cons h t => by
    rw [List.reverse_cons, List.reverse_cons]
    exact (RVs.reverse t).append (.cons h .nil)
theorem RVs.map {α : Type} {f : α → AV} {g : α → V} (h : ∀ a, RV K mg ι H (f a) (g a)) : ∀ l : List α, RVs K mg ι H (l.map f) (l.map g)
  | [] => .nil
  | a :: l => .cons (h a) (RVs.map h l)

/-- the same, where more is being made -/
structure ExtW (ι : Mp) (H : Hp) (ι' : Mp) (H' : Hp) : Prop where
  pre : ∃ new, ι'.n = ι.n ++ new ∧ ∀ a ∈ new, H a = none
  gg : ∀ a ∈ ι'.g, a ∈ ι.g ∨ H a = none
  keep : ∀ b o, H b = some o → b ∉ ι.n → H' b = some o
theorem Ext.w (e : Ext ι H ι' H') : ExtW ι H ι' H' := ⟨e.pre, fun a ha => .inl (by rw [← e.gg]; exact ha), e.keep⟩
theorem ExtW.rd (e : ExtW ι H ι' H') {a : Addr} {u : HO} (h : Rd H a u) (ha : ι.out a) : Rd H' a u ∧ ι'.out a := by
  obtain ⟨n, en, f⟩ := e.pre
  have na : H a ≠ none := by
    rcases h with h | ⟨o, h⟩ <;> rw [h] <;> simp
  refine ⟨?_, fun hm => ?_, fun hm => (e.gg a hm).elim ha.2 na⟩
  · rcases h with h | ⟨o, h⟩
    · exact .inl (e.keep _ _ h ha.1)
    · exact .inr ⟨o, e.keep _ _ h ha.1⟩
  · rw [en] at hm
    exact (List.mem_append.mp hm).elim ha.1 fun hm => na (f a hm)
theorem ExtW.get (e : ExtW ι H ι' H') {i : Nat} {a : Addr} (h : ι.n[i]? = some a) : ι'.n[i]? = some a := by
  obtain ⟨n, en, _⟩ := e.pre
  obtain ⟨hl, _⟩ := List.getElem?_eq_some_iff.mp h
  rw [en, List.getElem?_append_left hl, h]
theorem FzT.extW {a : Addr} {vs : List V} (h : FzT K ι H a vs) (e : ExtW ι H ι' H') : FzT K ι' H' a vs := h.elim (fun ⟨x, y⟩ => .inl (e.rd x y)) .inr
theorem FzL.extW {a : Addr} {vs : List V} (h : FzL K ι H a vs) (e : ExtW ι H ι' H') : FzL K ι' H' a vs := h.elim (fun ⟨x, y⟩ => .inl (e.rd x y)) .inr
mutual
theorem RV.extW (e : ExtW ι H ι' H') : ∀ {x : AV} {v : V}, RV K mg ι H x v → RV K mg ι' H' x v
  | _, _, .non => .non
  | _, _, .bl b => .bl b
  | _, _, .int i => .int i
  | _, _, .str s => .str s
  | _, _, .tup h r => .tup (h.extW e) (RVs.extW e r)
  | _, _, .lst h r => .lst (h.extW e) (RVs.extW e r)
  | _, _, .dct h hl hn r => .dct (e.rd h.1 h.2) hl hn (RVs.extW e r)
  | _, _, .ref h => .ref (e.get h)
  | _, _, .glob h => .glob h
  | _, _, .ty n => .ty n
theorem RVs.extW (e : ExtW ι H ι' H') : ∀ {xs : List AV} {vs : List V}, RVs K mg ι H xs vs → RVs K mg ι' H' xs vs
  | _, _, .nil => .nil
  | _, _, .cons h t => .cons (RV.extW e h) (RVs.extW e t)
end
/-- the fields of an instance, one by one -/
inductive RFs (K : Fg) (mg : Str → Option Value) (ι : Mp) (H : Hp) : List (Str × AV) → List (Str × V) → Prop where
  | nil : RFs K mg ι H [] []
  | cons {f x v fs gs} (h : RV K mg ι H x v) (t : RFs K mg ι H fs gs) : RFs K mg ι H ((f, x) :: fs) ((f, v) :: gs)
theorem RFs.ext (e : Ext ι H ι' H') : ∀ {fs : List (Str × AV)} {gs : List (Str × V)}, RFs K mg ι H fs gs → RFs K mg ι' H' fs gs
  | _, _, .nil => .nil
  | _, _, .cons h t => .cons (h.ext e) (RFs.ext e t)
theorem RFs.length : ∀ {fs : List (Str × AV)} {gs : List (Str × V)}, RFs K mg ι H fs gs → fs.length = gs.length
  | _, _, .nil => rfl
  | _, _, .cons _ t => congrArg (· + 1) (RFs.length t)
theorem RFs.look {f : Str} : ∀ {fs : List (Str × AV)} {gs : List (Str × V)}, RFs K mg ι H fs gs → (∃ x v, fs.lookup f = some x ∧ gs.lookup f = some v ∧ RV K mg ι H x v) ∨ (fs.lookup f = none ∧ gs.lookup f = none)
  | _, _, .nil => .inr ⟨rfl, rfl⟩
  | _, _, .cons (f := g) h t => by
    by_cases e : f == g
    · simp only [List.lookup_cons, e]
      exact .inl ⟨_, _, rfl, rfl, h⟩
    · simp only [List.lookup_cons, e]
      exact RFs.look t
/-- a field stored: at its place, or behind -/
def putA (f : Str) (v : AV) : List (Str × AV) → List (Str × AV)
  | [] => [(f, v)]
  | (g, u) :: r => if g = f then (g, v) :: r else (g, u) :: putA f v r
theorem RFs.put {f : Str} {x : AV} {v : V} (h : RV K mg ι H x v) : ∀ {fs : List (Str × AV)} {gs : List (Str × V)}, RFs K mg ι H fs gs → RFs K mg ι H (putA f x fs) (putF f v gs)
  | _, _, .nil => .cons h .nil
  | _, _, .cons (f := g) k t => by
    unfold putA putF
    by_cases e : g = f
    · rw [if_pos e, if_pos e]; exact .cons h t
    · rw [if_neg e, if_neg e]; exact .cons k (RFs.put h t)
end

/-- a class's address -/
abbrev CA := Str → Option Addr
def clsA (mg : Str → Option Value) (c : Str) : Option Addr := match mg c with
  | some (.ref a) => some a
  | _ => none
/-- a numbered object as it lies at a -/
def RO (K : Fg) (mg : Str → Option Value) (ι : Mp) (H : Hp) (a : Addr) : AObj → Prop
  | .lst xs => ∃ vs, H a = some (.lst vs) ∧ RVs K mg ι H xs vs
  | .dct ks xs => ∃ vs, H a = some (.dK (ks.zip vs)) ∧ ks.length = vs.length ∧ ks.Nodup ∧ RVs K mg ι H xs vs
  | .ins c fs => ∃ C dx gs, mg c = some (.ref C) ∧ H a = some (.ins C dx gs) ∧ H dx = some (.own a) ∧ ι.out dx ∧ RFs K mg ι H fs gs
theorem RO.there {K : Fg} {mg : Str → Option Value} {ι : Mp} {H : Hp} {a : Addr} : ∀ {o : AObj}, RO K mg ι H a o → H a ≠ none
  | .lst _, ⟨_, h, _⟩ => by rw [h]; simp
  | .dct _ _, ⟨_, h, _⟩ => by rw [h]; simp
  | .ins _ _, ⟨_, _, _, _, h, _⟩ => by rw [h]; simp
/-- it stays where its own place is as it was -/
theorem RO.ext {K : Fg} {mg : Str → Option Value} {ι ι' : Mp} {H H' : Hp} {a : Addr} (e : Ext ι H ι' H') (ha : H' a = H a) : ∀ {o : AObj}, RO K mg ι H a o → RO K mg ι' H' a o
  | .lst _, ⟨vs, h, r⟩ => ⟨vs, ha.trans h, r.ext e⟩
  | .dct _ _, ⟨vs, h, l, n, r⟩ => ⟨vs, ha.trans h, l, n, r.ext e⟩
  | .ins _ _, ⟨C, dx, gs, c, h, d, nd, r⟩ => by
    obtain ⟨h1, h2⟩ := e.rd (.inl d) nd
    exact ⟨C, dx, gs, c, ha.trans h, e.keep _ _ d nd.1, h2, r.ext e⟩

structure Rep (K : Fg) (mg : Str → Option Value) (ι : Mp) (h : AH) (H : Hp) : Prop where
  len : ι.n.length = h.length
  nd : ι.n.Nodup
  gl : ∀ a ∈ ι.g, H a ≠ none ∧ a ∉ ι.n
  ob : ∀ (i : Nat) a o, ι.n[i]? = some a → h[i]? = some o → RO K mg ι H a o
/-- one more numbered thing -/
def Mp.num (ι : Mp) (p : Addr) : Mp := ⟨ι.n ++ [p], ι.g⟩
/-- one more thing that is being made -/
def Mp.mk1 (ι : Mp) (p : Addr) : Mp := ⟨ι.n, p :: ι.g⟩
section
variable {K : Fg} {mg : Str → Option Value} {ι ι' : Mp} {h : AH} {H H' : Hp}
theorem Rep.at (R : Rep K mg ι h H) {i : Nat} {o : AObj} (e : h[i]? = some o) : ∃ a, ι.n[i]? = some a ∧ RO K mg ι H a o := by
  obtain ⟨hl, _⟩ := List.getElem?_eq_some_iff.mp e
  have hl' : i < ι.n.length := by rw [R.len]; exact hl
  exact ⟨ι.n[i], by simp [hl'], R.ob i _ o (by simp [hl']) e⟩
theorem Rep.there (R : Rep K mg ι h H) {a : Addr} (ha : a ∈ ι.n) : H a ≠ none := by
  obtain ⟨i, hi, rfl⟩ := List.getElem_of_mem ha
  have hl : i < h.length := by rw [← R.len]; exact hi
  exact (R.ob i _ h[i] (by simp [hi]) (by simp [hl])).there
theorem Rep.out (R : Rep K mg ι h H) {a : Addr} (ha : H a = none) : ι.out a := ⟨fun hm => R.there hm ha, fun hm => (R.gl a hm).1 ha⟩
/-- a new thing that isn't numbered -/
theorem Ext.new {p : Addr} {o : HO} (hp : H p = none) : Ext ι H ι (upd H p o) :=
  ⟨⟨[], by simp, by simp⟩, rfl, fun b u e _ => by rw [upd_ne (ne_of_none e hp)]; exact e, fun b e => by
    by_cases hb : b = p
    · subst hb; rw [upd_same] at e; cases e
    · rw [upd_ne hb] at e; exact e⟩
theorem upd_live {p : Addr} {o : HO} {a : Addr} (ha : H a ≠ none) : upd H p o a ≠ none := by
  by_cases hb : a = p
  · subst hb; rw [upd_same]; simp
  · rw [upd_ne hb]; exact ha
theorem Rep.new (R : Rep K mg ι h H) {p : Addr} {o : HO} (hp : H p = none) : Rep K mg ι h (upd H p o) :=
  ⟨R.len, R.nd, fun a ha => ⟨upd_live (R.gl a ha).1, (R.gl a ha).2⟩, fun i a u h1 h2 => by
    have k := R.ob i a u h1 h2
    refine k.ext (Ext.new hp) (upd_ne fun e => ?_)
    subst e
    exact k.there hp⟩
/-- a new thing that is numbered -/
theorem Ext.num {p : Addr} {o : HO} (hp : H p = none) : Ext ι H (ι.num p) (upd H p o) :=
  ⟨⟨[p], rfl, by simpa using hp⟩, rfl, (Ext.new (ι := ι) hp).keep, (Ext.new (ι := ι) hp).live⟩
theorem Rep.num (R : Rep K mg ι h H) {p : Addr} {ho : HO} {o : AObj} (hp : H p = none) (k : RO K mg (ι.num p) (upd H p ho) p o) : Rep K mg (ι.num p) (h ++ [o]) (upd H p ho) := by
  have np := R.out hp
  refine ⟨by simp [R.len, Mp.num], ?_, fun a ha => ⟨upd_live (R.gl a ha).1, fun hm => ?_⟩, fun i a u h1 h2 => ?_⟩
  · show (ι.n ++ [p]).Nodup
    rw [List.nodup_append]
    refine ⟨R.nd, by simp, fun x hx y hy => ?_⟩
    have : y = p := by simpa using hy
    subst this
    rintro rfl
    exact np.1 hx
  · rcases List.mem_append.mp (show a ∈ ι.n ++ [p] from hm) with hm | hm
    · exact (R.gl a ha).2 hm
    · have : a = p := by simpa using hm
      subst this
      exact np.2 ha
  · have h1 : (ι.n ++ [p])[i]? = some a := h1
    by_cases hi : i < h.length
    · rw [List.getElem?_append_left (by rw [R.len]; exact hi)] at h1
      rw [List.getElem?_append_left hi] at h2
      have k' := R.ob i a u h1 h2
      refine k'.ext (Ext.num hp) (upd_ne fun e => ?_)
      subst e
      exact k'.there hp
    · have e : i = h.length := by
        obtain ⟨hl, _⟩ := List.getElem?_eq_some_iff.mp h2
        rw [List.length_append] at hl
        simp at hl
        omega
      subst e
      rw [← R.len, List.getElem?_append_right (Nat.le_refl _)] at h1
      rw [List.getElem?_append_right (Nat.le_refl _)] at h2
      simp at h1 h2
      subst h1 h2
      exact k
/-- a numbered thing is written -/
theorem Ext.write {a : Addr} {o : HO} (ha : a ∈ ι.n) : Ext ι H ι (upd H a o) :=
  ⟨⟨[], by simp, by simp⟩, rfl, fun b u e hb => by rw [upd_ne (fun z => hb (by rw [z]; exact ha))]; exact e, fun b e => by
    by_cases hb : b = a
    · subst hb; rw [upd_same] at e; cases e
    · rw [upd_ne hb] at e; exact e⟩
theorem Rep.write (R : Rep K mg ι h H) {i : Nat} {a : Addr} {ho : HO} {o : AObj} (ha : ι.n[i]? = some a) (k : RO K mg ι (upd H a ho) a o) : Rep K mg ι (h.set i o) (upd H a ho) := by
  refine ⟨by simp [R.len], R.nd, fun b hb => ⟨upd_live (R.gl b hb).1, (R.gl b hb).2⟩, fun j b u h1 h2 => ?_⟩
  by_cases hj : j = i
  · subst hj
    rw [ha] at h1; cases h1
    obtain ⟨hl, _⟩ := List.getElem?_eq_some_iff.mp ha
    rw [List.getElem?_set_self (by rw [← R.len]; exact hl)] at h2
    cases h2
    exact k
  · rw [List.getElem?_set_ne (Ne.symm hj)] at h2
    refine (R.ob j b u h1 h2).ext (Ext.write (List.mem_of_getElem? ha)) (upd_ne ?_)
    rintro rfl
    obtain ⟨l1, e1⟩ := List.getElem?_eq_some_iff.mp h1
    obtain ⟨l2, e2⟩ := List.getElem?_eq_some_iff.mp ha
    exact hj ((List.getElem_inj R.nd).mp (e1.trans e2.symm))
end

/-! ### things that are being made: they may be put aside (mk1), changed, and brought back -/
theorem Mp.out1 {ι : Mp} {p a : Addr} : (ι.mk1 p).out a ↔ ι.out a ∧ a ≠ p := by
  constructor
  · intro h; exact ⟨⟨h.1, fun z => h.2 (List.mem_cons_of_mem _ z)⟩, fun z => h.2 (by rw [z]; exact List.mem_cons_self)⟩
  · intro h; exact ⟨h.1.1, fun z => (List.mem_cons.mp z).elim h.2 h.1.2⟩
theorem Ext.mkW {ι ι' : Mp} {H H' : Hp} {p : Addr} (e : Ext ι H ι' H') (hp : H p = none) : ExtW ι H (ι'.mk1 p) H' :=
  ⟨e.pre, fun a ha => by
    rcases List.mem_cons.mp ha with rfl | ha
    · exact .inr hp
    · exact .inl (by rw [← e.gg]; exact ha), e.keep⟩
section
variable {K : Fg} {mg : Str → Option Value} {ι ι' : Mp} {h : AH} {H H' : Hp} {p : Addr} {o u : HO}
/-! a value of before, where a new thing p is made -/
mutual
theorem RV.aside (hp : H p = none) : ∀ {x : AV} {v : V}, RV K mg ι H x v → RV K mg (ι.mk1 p) (upd H p o) x v
  | _, _, .non => .non
  | _, _, .bl b => .bl b
  | _, _, .int i => .int i
  | _, _, .str s => .str s
  | _, _, .tup h r => .tup (h.elim (fun ⟨x, y⟩ => .inl ((Ext.new (o := o) hp).rd x y |>.imp_right fun z => Mp.out1.mpr ⟨z, fun e => by subst e; rcases x with x | ⟨_, x⟩ <;> rw [hp] at x <;> cases x⟩)) .inr) (RVs.aside hp r)
  | _, _, .lst h r => .lst (h.elim (fun ⟨x, y⟩ => .inl ((Ext.new (o := o) hp).rd x y |>.imp_right fun z => Mp.out1.mpr ⟨z, fun e => by subst e; rcases x with x | ⟨_, x⟩ <;> rw [hp] at x <;> cases x⟩)) .inr) (RVs.aside hp r)
  | _, _, .dct h hl hn r => .dct (((Ext.new (o := o) hp).rd h.1 h.2).imp_right fun z => Mp.out1.mpr ⟨z, fun e => by subst e; rcases h.1 with x | ⟨_, x⟩ <;> rw [hp] at x <;> cases x⟩) hl hn (RVs.aside hp r)
  | _, _, .ref h => .ref h
  | _, _, .glob h => .glob h
  | _, _, .ty n => .ty n
theorem RVs.aside (hp : H p = none) : ∀ {xs : List AV} {vs : List V}, RVs K mg ι H xs vs → RVs K mg (ι.mk1 p) (upd H p o) xs vs
  | _, _, .nil => .nil
  | _, _, .cons h t => .cons (RV.aside hp h) (RVs.aside hp t)
end
/-! a value, where the thing that is being made changes -/
mutual
theorem RV.chg : ∀ {x : AV} {v : V}, RV K mg (ι.mk1 p) H x v → RV K mg (ι.mk1 p) (upd H p u) x v
  | _, _, .non => .non
  | _, _, .bl b => .bl b
  | _, _, .int i => .int i
  | _, _, .str s => .str s
  | _, _, .tup h r => .tup (h.elim (fun ⟨x, y⟩ => .inl ⟨x.imp (fun x => by rw [upd_ne (Mp.out1.mp y).2]; exact x) fun ⟨o, x⟩ => ⟨o, by rw [upd_ne (Mp.out1.mp y).2]; exact x⟩, y⟩) .inr) (RVs.chg r)
  | _, _, .lst h r => .lst (h.elim (fun ⟨x, y⟩ => .inl ⟨x.imp (fun x => by rw [upd_ne (Mp.out1.mp y).2]; exact x) fun ⟨o, x⟩ => ⟨o, by rw [upd_ne (Mp.out1.mp y).2]; exact x⟩, y⟩) .inr) (RVs.chg r)
  | _, _, .dct h hl hn r => .dct ⟨h.1.imp (fun x => by rw [upd_ne (Mp.out1.mp h.2).2]; exact x) fun ⟨o, x⟩ => ⟨o, by rw [upd_ne (Mp.out1.mp h.2).2]; exact x⟩, h.2⟩ hl hn (RVs.chg r)
  | _, _, .ref h => .ref h
  | _, _, .glob h => .glob h
  | _, _, .ty n => .ty n
theorem RVs.chg : ∀ {xs : List AV} {vs : List V}, RVs K mg (ι.mk1 p) H xs vs → RVs K mg (ι.mk1 p) (upd H p u) xs vs
  | _, _, .nil => .nil
  | _, _, .cons h t => .cons (RV.chg h) (RVs.chg t)
end
/-! a value, where the thing is made -/
mutual
theorem RV.made : ∀ {x : AV} {v : V}, RV K mg (ι.mk1 p) H x v → RV K mg ι H x v
  | _, _, .non => .non
  | _, _, .bl b => .bl b
  | _, _, .int i => .int i
  | _, _, .str s => .str s
  | _, _, .tup h r => .tup (h.imp_left fun ⟨x, y⟩ => ⟨x, (Mp.out1.mp y).1⟩) (RVs.made r)
  | _, _, .lst h r => .lst (h.imp_left fun ⟨x, y⟩ => ⟨x, (Mp.out1.mp y).1⟩) (RVs.made r)
  | _, _, .dct h hl hn r => .dct ⟨h.1, (Mp.out1.mp h.2).1⟩ hl hn (RVs.made r)
  | _, _, .ref h => .ref h
  | _, _, .glob h => .glob h
  | _, _, .ty n => .ty n
theorem RVs.made : ∀ {xs : List AV} {vs : List V}, RVs K mg (ι.mk1 p) H xs vs → RVs K mg ι H xs vs
  | _, _, .nil => .nil
  | _, _, .cons h t => .cons (RV.made h) (RVs.made t)
end
theorem RFs.aside (hp : H p = none) : ∀ {fs : List (Str × AV)} {gs : List (Str × V)}, RFs K mg ι H fs gs → RFs K mg (ι.mk1 p) (upd H p o) fs gs
  | _, _, .nil => .nil
  | _, _, .cons h t => .cons (h.aside hp) (RFs.aside hp t)
theorem RFs.chg : ∀ {fs : List (Str × AV)} {gs : List (Str × V)}, RFs K mg (ι.mk1 p) H fs gs → RFs K mg (ι.mk1 p) (upd H p u) fs gs
  | _, _, .nil => .nil
  | _, _, .cons h t => .cons h.chg (RFs.chg t)
theorem RFs.made : ∀ {fs : List (Str × AV)} {gs : List (Str × V)}, RFs K mg (ι.mk1 p) H fs gs → RFs K mg ι H fs gs
  | _, _, .nil => .nil
  | _, _, .cons h t => .cons h.made (RFs.made t)
theorem Rep.aside (R : Rep K mg ι h H) (hp : H p = none) : Rep K mg (ι.mk1 p) h (upd H p o) := by
  have np := R.out hp
  refine ⟨R.len, R.nd, fun a ha => ?_, fun i a ob h1 h2 => ?_⟩
  · rcases List.mem_cons.mp ha with rfl | ha
    · exact ⟨by rw [upd_same]; simp, np.1⟩
    · exact ⟨upd_live (R.gl a ha).1, (R.gl a ha).2⟩
  · have k := R.ob i a ob h1 h2
    have hne : a ≠ p := fun e => by subst e; exact k.there hp
    cases ob with
    | lst xs => obtain ⟨vs, h, r⟩ := k; exact ⟨vs, (upd_ne hne).trans h, r.aside hp⟩
    | dct ks xs => obtain ⟨vs, h, l, n, r⟩ := k; exact ⟨vs, (upd_ne hne).trans h, l, n, r.aside hp⟩
    | ins c fs =>
      obtain ⟨C, dx, gs, c, h, d, nd, r⟩ := k
      have hd : dx ≠ p := ne_of_none d hp
      exact ⟨C, dx, gs, c, (upd_ne hne).trans h, (upd_ne hd).trans d, Mp.out1.mpr ⟨nd, hd⟩, r.aside hp⟩
theorem Rep.chg (R : Rep K mg (ι.mk1 p) h H) : Rep K mg (ι.mk1 p) h (upd H p u) := by
  refine ⟨R.len, R.nd, fun a ha => ⟨upd_live (R.gl a ha).1, (R.gl a ha).2⟩, fun i a ob h1 h2 => ?_⟩
  have k := R.ob i a ob h1 h2
  have hne : a ≠ p := fun e => (R.gl p List.mem_cons_self).2 (by rw [← e]; exact List.mem_of_getElem? h1)
  cases ob with
  | lst xs => obtain ⟨vs, h, r⟩ := k; exact ⟨vs, (upd_ne hne).trans h, r.chg⟩
  | dct ks xs => obtain ⟨vs, h, l, n, r⟩ := k; exact ⟨vs, (upd_ne hne).trans h, l, n, r.chg⟩
  | ins c fs =>
    obtain ⟨C, dx, gs, c, h, d, nd, r⟩ := k
    have hd : dx ≠ p := (Mp.out1.mp nd).2
    exact ⟨C, dx, gs, c, (upd_ne hne).trans h, (upd_ne hd).trans d, nd, r.chg⟩
theorem Rep.made (R : Rep K mg (ι.mk1 p) h H) : Rep K mg ι h H := by
  refine ⟨R.len, R.nd, fun a ha => R.gl a (List.mem_cons_of_mem _ ha), fun i a ob h1 h2 => ?_⟩
  have k := R.ob i a ob h1 h2
  cases ob with
  | lst xs => obtain ⟨vs, h, r⟩ := k; exact ⟨vs, h, r.made⟩
  | dct ks xs => obtain ⟨vs, h, l, n, r⟩ := k; exact ⟨vs, h, l, n, r.made⟩
  | ins c fs => obtain ⟨C, dx, gs, c, h, d, nd, r⟩ := k; exact ⟨C, dx, gs, c, h, d, (Mp.out1.mp nd).1, r.made⟩
end
/-! what was made is numbered -/
section
variable {K : Fg} {mg : Str → Option Value} {ι ι' : Mp} {h : AH} {H H' : Hp} {p : Addr}
theorem Mp.outN {ι : Mp} {p a : Addr} (h : (ι.mk1 p).out a) : (ι.num p).out a := by
  obtain ⟨h1, h2⟩ := Mp.out1.mp h
  exact ⟨fun z => (List.mem_append.mp z).elim h1.1 fun z => h2 (by simpa using z), h1.2⟩
mutual
theorem RV.num : ∀ {x : AV} {v : V}, RV K mg (ι.mk1 p) H x v → RV K mg (ι.num p) H x v
  | _, _, .non => .non
  | _, _, .bl b => .bl b
  | _, _, .int i => .int i
  | _, _, .str s => .str s
  | _, _, .tup h r => .tup (h.imp_left fun ⟨x, y⟩ => ⟨x, Mp.outN y⟩) (RVs.num r)
  | _, _, .lst h r => .lst (h.imp_left fun ⟨x, y⟩ => ⟨x, Mp.outN y⟩) (RVs.num r)
  | _, _, .dct h hl hn r => .dct ⟨h.1, Mp.outN h.2⟩ hl hn (RVs.num r)
  | _, _, .ref h => .ref (by
      have h' : ι.n[_]? = some _ := h
      obtain ⟨hl, e⟩ := List.getElem?_eq_some_iff.mp h'
      show (ι.n ++ [p])[_]? = _
      rw [List.getElem?_append_left hl]; exact h')
  | _, _, .glob h => .glob h
  | _, _, .ty n => .ty n
theorem RVs.num : ∀ {xs : List AV} {vs : List V}, RVs K mg (ι.mk1 p) H xs vs → RVs K mg (ι.num p) H xs vs
  | _, _, .nil => .nil
  | _, _, .cons h t => .cons (RV.num h) (RVs.num t)
end
theorem RFs.num : ∀ {fs : List (Str × AV)} {gs : List (Str × V)}, RFs K mg (ι.mk1 p) H fs gs → RFs K mg (ι.num p) H fs gs
  | _, _, .nil => .nil
  | _, _, .cons h t => .cons h.num (RFs.num t)
theorem Rep.numMk (R : Rep K mg (ι.mk1 p) h H) (hg : p ∉ ι.g) {o : AObj} (k : RO K mg (ι.num p) H p o) : Rep K mg (ι.num p) (h ++ [o]) H := by
  have np : p ∉ ι.n := (R.gl p List.mem_cons_self).2
  have hlen : ι.n.length = h.length := R.len
  refine ⟨by simp [hlen, Mp.num], ?_, fun a ha => ⟨(R.gl a (List.mem_cons_of_mem _ ha)).1, fun hm => ?_⟩, fun i a ob h1 h2 => ?_⟩
  · show (ι.n ++ [p]).Nodup
    rw [List.nodup_append]
    refine ⟨R.nd, by simp, fun x hx y hy => ?_⟩
    have : y = p := by simpa using hy
    subst this
    rintro rfl
    exact np hx
  · rcases List.mem_append.mp (show a ∈ ι.n ++ [p] from hm) with hm | hm
    · exact (R.gl a (List.mem_cons_of_mem _ ha)).2 hm
    · have : a = p := by simpa using hm
      subst this
      exact hg ha
  · have h1 : (ι.n ++ [p])[i]? = some a := h1
    by_cases hi : i < h.length
    · rw [List.getElem?_append_left (by rw [hlen]; exact hi)] at h1
      rw [List.getElem?_append_left hi] at h2
      have k' := R.ob i a ob h1 h2
      cases ob with
      | lst xs => obtain ⟨vs, h, r⟩ := k'; exact ⟨vs, h, r.num⟩
      | dct ks xs => obtain ⟨vs, h, l, n, r⟩ := k'; exact ⟨vs, h, l, n, r.num⟩
      | ins c fs => obtain ⟨C, dx, gs, c, h, d, nd, r⟩ := k'; exact ⟨C, dx, gs, c, h, d, Mp.outN nd, r.num⟩
    · have e : i = h.length := by
        obtain ⟨hl, _⟩ := List.getElem?_eq_some_iff.mp h2
        rw [List.length_append] at hl
        simp at hl
        omega
      subst e
      rw [← hlen, List.getElem?_append_right (Nat.le_refl _)] at h1
      rw [List.getElem?_append_right (Nat.le_refl _)] at h2
      simp at h1 h2
      subst h1 h2
      exact k
theorem Ext.unmk (e : Ext (ι.mk1 p) H ι' H') : ∃ ιd : Mp, ι' = ιd.mk1 p ∧ Ext ι H ιd H' := by
  refine ⟨⟨ι'.n, ι.g⟩, ?_, e.pre, rfl, e.keep, e.live⟩
  have := e.gg
  obtain ⟨n, g⟩ := ι'
  have e2 : g = p :: ι.g := this
  subst e2
  rfl
theorem Ext.made {o : HO} (hp : H p = none) (e : Ext (ι.mk1 p) (upd H p o) ι' H') : ∃ ιd : Mp, ι' = ιd.mk1 p ∧ Ext ι H ιd H' := by
  obtain ⟨ιd, e1, e2⟩ := e.unmk
  exact ⟨ιd, e1, (Ext.new (o := o) hp).trans e2⟩
theorem Ext.numD {ι1 : Mp} {H1 : Hp} (e : Ext ι1 H1 ι H) (hp : H1 p = none) : Ext ι1 H1 (ι.num p) H := by
  obtain ⟨n, e1, e2⟩ := e.pre
  refine ⟨⟨n ++ [p], by show ι.n ++ [p] = _; rw [e1, List.append_assoc], fun a ha => ?_⟩, e.gg, e.keep, e.live⟩
  rcases List.mem_append.mp ha with ha | ha
  · exact e2 a ha
  · have : a = p := by simpa using ha
    rw [this]; exact hp
end
end Zk
/-! Part 2: the small language (IE, IT, IS) and what its programs do (evE, evT, exS). -/
namespace Zk
open PySem L2

/-- an exception of the program's own: its class, its fields -/
structure AEx where
  cls : Str
  fs : List (Str × AV)
inductive Out (α : Type) where
  | stuck
  | ok (a : α) (h : AH)
  | ex (e : AEx) (h : AH)
def Out.bind {α β : Type} (o : Out α) (f : α → AH → Out β) : Out β := match o with
  | .stuck => .stuck
  | .ok a h => f a h
  | .ex e h => .ex e h
@[simp] theorem Out.bind_ok {α β : Type} (a : α) (h : AH) (f : α → AH → Out β) : (Out.ok a h).bind f = f a h := rfl
@[simp] theorem Out.bind_stuck {α β : Type} (f : α → AH → Out β) : (Out.stuck : Out α).bind f = .stuck := rfl
@[simp] theorem Out.bind_ex {α β : Type} (e : AEx) (h : AH) (f : α → AH → Out β) : (Out.ex e h : Out α).bind f = .ex e h := rfl

abbrev En := List (Option AV)

inductive BOp where | add | sub | mul | fdiv | mod | pow
  deriving DecidableEq
inductive COp where | eq | ne | lt | le | gt | ge | isin | notin | isN | notN
  deriving DecidableEq
/-- built-in functions and types that are called -/
inductive Bi where | len | all | any | isinst | repr | min2 | max2 | list | tuple | sorted
  deriving DecidableEq
/-- methods of built-in types -/
inductive Bm where | popAt | append | split | join | upper
  deriving DecidableEq

/-- targets -/
inductive ITg where
  | nm (i : Nat)
  | tp (ts : List ITg)

mutual
inductive IE where
  | var (i : Nat)
  | cst (c : AV)
  | con (x : Str)
  | bin (op : BOp) (a b : IE)
  | cmp (op : COp) (a b : IE)
  | chn (o1 o2 : COp) (a b c : IE)
  | land (a b : IE)
  | lor (a b : IE)
  | lnot (a : IE)
  | neg (a : IE)
  | ite (c : IT) (a b : IE)
  | tup (es : IEs)
  | lst (m : Bool) (es : IEs)
  | dct (m : Bool) (ps : IPs)
  | idx (a b : IE)
  | slc (a lo hi : IE)
  | nop
  | call (f : Str) (es : IEs)
  | calk (f : Str) (es : IEs) (ks : List Str) (vs : IEs)
  | bi (b : Bi) (es : IEs)
  | bm (m : Bm) (o : IE) (es : IEs)
  | lc (m : Bool) (own : List Nat) (tg : ITg) (it : II) (c : IT) (e : IE)
inductive IEs where
  | nil
  | cons (e : IE) (es : IEs)
/-- a display's pairs -/
inductive IPs where
  | nil
  | cons (k v : IE) (ps : IPs)
/-- tests -/
inductive IT where
  | tt
  | val (e : IE)
  | land (a b : IT)
  | lor (a b : IT)
  | lnot (a : IT)
/-- what is walked -/
inductive II where
  | val (e : IE)
  | rng1 (e : IE)
  | rng2 (a b : IE)
  | enum (e : IE)
  | zip (a b : IE)
end
def IEs.len : IEs → Nat
  | .nil => 0
  | .cons _ es => es.len + 1

def IE.isNop : IE → Bool
  | .nop => true
  | _ => false
/-- its items are new pairs -/
def II.pair : II → Bool
  | .enum _ | .zip _ _ => true
  | _ => false
def ITg.isTp : ITg → Bool
  | .tp _ => true
  | _ => false
def IT.isTt : IT → Bool
  | .tt => true
  | _ => false
/-- no written set -/
def noSet : Expr → Bool
  | .Set .. => false
  | _ => true
/-! ### values -/
/-- a numbered list or dict as it stands -/
def deref (h : AH) : AV → AV
  | .ref i => match h[i]? with
    | some (.lst xs) => .lst xs
    | some (.dct ks xs) => .dct ks xs
    | _ => .ref i
  | v => v
mutual
/-- data: numbered lists are read -/
def datA (h : AH) (n : Nat) : AV → Option PyData
  | .non => some .none
  | .bl b => some (.bool b)
  | .int i => some (.int i)
  | .str s => some (.str s)
  | .tup xs => (datAs h n xs).map .tuple
  | .lst xs => (datAs h n xs).map .list
  | _ => none
def datAs (h : AH) (n : Nat) : List AV → Option (List PyData)
  | [] => some []
  | x :: xs => (datA h n x).bind fun d => (datAs h n xs).map (d :: ·)
end
mutual
/-- data within which no list stands -/
@[simp] def datT : AV → Option PyData
  | .non => some .none
  | .bl b => some (.bool b)
  | .int i => some (.int i)
  | .str s => some (.str s)
  | .tup xs => (datTs xs).map .tuple
  | _ => none
@[simp] def datTs : List AV → Option (List PyData)
  | [] => some []
  | x :: xs => (datT x).bind fun d => (datTs xs).map (d :: ·)
end
def keyD : Key → PyData
  | .inl i => .int i
  | .inr s => .str s
/-- data, or a dict of such -/
def datR (h : AH) (v : AV) : Option PyData := match deref h v with
  | .dct ks vs => (datTs vs).map fun ds => .dict ((ks.map keyD).zip ds)
  | v => datA h 0 v
def reprS (h : AH) (v : AV) : Option AV := (datR h v).bind fun d => if d.showable = true ∧ d.shown.length ≤ sizeLine ∧ d.depth ≤ 100 then some (.str d.shown) else none
def flatA : AV → Bool
  | .non | .bl _ | .int _ | .str _ => true
  | _ => false
/-- == of flat values -/
def eqF : AV → AV → Bool
  | .non, .non => true
  | .bl a, .bl b => a == b
  | .bl a, .int b => (if a then 1 else 0) == b
  | .int a, .bl b => a == (if b then 1 else 0)
  | .int a, .int b => a == b
  | .str a, .str b => a == b
  | _, _ => false
def truS (h : AH) : AV → Option Bool
  | .non => some false
  | .bl b => some b
  | .int i => some (i != 0)
  | .str s => if s.length ≤ sizeLine then some ((s.length : Int) != 0) else none
  | .lst xs | .tup xs => some (!xs.isEmpty)
  | .ref i => match h[i]? with
    | some (.lst xs) => some (!xs.isEmpty)
    | some (.dct ks _) => some (!ks.isEmpty)
    | _ => none
  | _ => none
def pr {α : Type} (o : Option α) (h : AH) : Out α := match o with
  | some v => .ok v h
  | none => .stuck
@[simp] theorem pr_some {α : Type} (v : α) (h : AH) : pr (some v) h = .ok v h := rfl
@[simp] theorem pr_none {α : Type} (h : AH) : pr (none : Option α) h = .stuck := rfl
/-- a value and the heap behind -/
def pr2 (o : Option (AV × AH)) : Out AV := match o with
  | some p => .ok p.1 p.2
  | none => .stuck
@[simp] theorem pr2_some (p : AV × AH) : pr2 (some p) = .ok p.1 p.2 := rfl
@[simp] theorem pr2_none : pr2 none = .stuck := rfl
/-- of two ints under a condition -/
def intS (C : Int → Int → Prop) [∀ i j, Decidable (C i j)] (f : Int → Int → AV) (a b : AV) : Option AV := match a, b with
  | .int i, .int j => if C i j then some (f i j) else none
  | _, _ => none
def intB (f : Int → Int → Bool) (a b : AV) : Option Bool := match a, b with
  | .int i, .int j => some (f i j)
  | _, _ => none
def addS (a b : AV) : Option AV := match a, b with
  | .int i, .int j => some (.int (i + j))
  | .str i, .str j => if i.length + j.length ≤ sizeLine then some (.str (i ++ j)) else none
  | .lst xs, .lst ys => if xs.length + ys.length ≤ sizeLine then some (.lst (xs ++ ys)) else none
  | .tup xs, .tup ys => if xs.length + ys.length ≤ sizeLine then some (.tup (xs ++ ys)) else none
  | _, _ => none
def binS : BOp → AV → AV → Option AV
  | .add => addS
  | .sub => intS (fun _ _ => True) fun i j => .int (i - j)
  | .mul => intS (fun i j => (-(2 ^ 64) < i ∧ i < 2 ^ 64) ∨ (-(2 ^ 64) < j ∧ j < 2 ^ 64)) fun i j => .int (i * j)
  | .fdiv => intS (fun _ j => 0 < j ∧ j < 1073741824) fun i j => .int (i / j)
  | .mod => intS (fun _ j => 0 < j) fun i j => .int (i % j)
  | .pow => intS (fun i j => 0 ≤ j ∧ j ≤ 1000000 ∧ i.natAbs < 2 ^ 64) fun i j => .int (i ^ j.toNat)
theorem intS_inv {C : Int → Int → Prop} [∀ i j, Decidable (C i j)] {f : Int → Int → AV} {a b c : AV} (e : intS C f a b = some c) : ∃ i j, a = .int i ∧ b = .int j ∧ C i j ∧ c = f i j := by
  unfold intS at e
  split at e
  · split at e
    · rename_i hc; cases e; exact ⟨_, _, rfl, rfl, hc, rfl⟩
    · cases e
  · cases e
theorem intB_inv {f : Int → Int → Bool} {a b : AV} {c : Bool} (e : intB f a b = some c) : ∃ i j, a = .int i ∧ b = .int j ∧ c = f i j := by
  unfold intB at e
  split at e
  · cases e; exact ⟨_, _, rfl, rfl, rfl⟩
  · cases e
def noneB : AV → Bool
  | .non => true
  | _ => false
def hasK (k : Key) : List Key → Bool
  | [] => false
  | j :: ks => if j = k then true else hasK k ks
/-- x in a list or tuple of flat things; a sign in a text; a key in a dict -/
def inS (h : AH) (x c : AV) : Option Bool := match deref h c with
  | .lst ys | .tup ys => if flatA x && ys.all flatA then some (ys.any fun y => eqF y x) else none
  | .str z => match x with
    | .str y => if y.length = 1 then some (decide (y.cps.getD 0 0 ∈ z.cps.toList)) else none
    | _ => none
  | .dct ks _ => match x with
    | .int i => some (hasK (.inl i) ks)
    | .str s => some (hasK (.inr s) ks)
    | _ => none
  | _ => none
def eqS (h : AH) (x y : AV) : Option Bool :=
  if flatA x && flatA y then some (eqF x y) else
    match datA h 0 (deref h x), datA h 0 (deref h y) with
    | some d, some e => if SeqAt.shaped d && SeqAt.shaped e then some (PyData.eqv d e) else none
    | _, _ => none
def cmpS (h : AH) (op : COp) (x y : AV) : Option Bool := match op with
  | .eq => eqS h x y
  | .ne => (eqS h x y).map (!·)
  | .lt => intB (fun i j => decide (i < j)) x y
  | .le => intB (fun i j => decide (i ≤ j)) x y
  | .gt => intB (fun i j => decide (j < i)) x y
  | .ge => intB (fun i j => decide (j ≤ i)) x y
  | .isin => inS h x y
  | .notin => (inS h x y).map (!·)
  | .isN => if noneB y then some (noneB x) else none
  | .notN => if noneB y then some (!noneB x) else none
/-- what stands at a key -/
def atKey (k : Key) : List Key → List AV → Option AV
  | j :: ks, v :: vs => if j = k then some v else atKey k ks vs
  | _, _ => none
def putKey {α : Type} (k : Key) (x : α) : List Key → List α → List α
  | j :: ks, v :: vs => (if j = k then x else v) :: putKey k x ks vs
  | _, vs => vs
def keyA : AV → Option Key
  | .int i => some (.inl i)
  | .str s => some (.inr s)
  | _ => none
def idxS (h : AH) (o i : AV) : Option AV := match deref h o, i with
  | .lst xs, .int i => atI xs i
  | .tup xs, .int i => atI xs i
  | .str z, .int i => if z.length ≤ sizeLine then (atI z.cps.toList i).map fun c => .str ⟨#[c]⟩ else none
  | .dct ks vs, i => (keyA i).bind fun k => atKey k ks vs
  | _, _ => none
/-- a part of a slice: left out, or a number -/
def partS (nop : Bool) (v : AV) : Option (Option Int) := if nop then some none else match v with
  | .int i => some (some i)
  | _ => none
def cutA {α : Type} (xs : List α) (lo hi : Option Int) : List α := (xs.drop (HT.sIx xs.length 0 lo)).take (HT.sIx xs.length xs.length hi - HT.sIx xs.length 0 lo)
def slcS (h : AH) (o : AV) (lo hi : Option Int) : Option AV := match deref h o with
  | .lst xs => some (.lst (cutA xs lo hi))
  | .tup xs => some (.tup (cutA xs lo hi))
  | .str z => if z.length ≤ sizeLine then some (.str ⟨(cutA z.cps.toList lo hi).toArray⟩) else none
  | _ => none
/-- a built-in type's name for isinstance; own classes by their name -/
def tyA (h : AH) : AV → Option (String ⊕ Str)
  | .non => some (.inl "NoneType")
  | .bl _ => some (.inl "bool")
  | .int _ => some (.inl "int")
  | .str _ => some (.inl "str")
  | .tup _ => some (.inl "tuple")
  | .lst _ => some (.inl "list")
  | .dct _ _ => some (.inl "dict")
  | .ref i => match h[i]? with
    | some (.lst _) => some (.inl "list")
    | some (.dct _ _) => some (.inl "dict")
    | some (.ins c _) => some (.inr c)
    | none => none
  | _ => none
/-- the program's tables -/
structure Tb where
  con : Str → Option AV
  call : Str → List AV → AH → Out AV
  arr : Str → List AV → List Str → List AV → Option (List AV)
  fu : Nat
  isi : Str → Str → Option Bool
/-- a def is called: its arguments by place, and by name -/
def callS (T : Tb) (f : Str) (vs : List AV) (ks : List Str) (us : List AV) (h : AH) : Out AV := match T.arr f vs ks us with
  | some as => T.call f as h
  | none => .stuck
def tyNames : List String := ["NoneType", "bool", "int", "str", "tuple", "list", "dict"]
def isiS (T : Tb) (h : AH) (x t : AV) : Option Bool := match tyA h x with
  | none => none
  | some (.inl a) => match t with
    | .ty b => kitB a b
    | .glob d => if T.isi d d = some true ∧ a ∈ tyNames then some false else none
    | _ => none
  | some (.inr c) => match t with
    | .ty b => if T.isi c c = some true ∧ b ∈ tyNames then some false else none
    | .glob d => T.isi c d
    | _ => none
@[simp] def blsA : List AV → Option (List Bool)
  | [] => some []
  | .bl b :: xs => (blsA xs).map (b :: ·)
  | _ :: _ => none
@[simp] def strsA : List AV → Option (List Str)
  | [] => some []
  | .str b :: xs => (strsA xs).map (b :: ·)
  | _ :: _ => none
def lenS (h : AH) (x : AV) : Option AV := match deref h x with
  | .lst xs | .tup xs => some (.int xs.length)
  | .str z => if z.length ≤ sizeLine then some (.int z.length) else none
  | .dct ks _ => some (.int ks.length)
  | _ => none
def itemsL (h : AH) (x : AV) : Option (List AV) := match deref h x with
  | .lst xs | .tup xs => some xs
  | _ => none
def lstL (h : AH) (x : AV) : Option (List AV) := match deref h x with
  | .lst xs => some xs
  | _ => none
def biS (T : Tb) (h : AH) (b : Bi) (vs : List AV) : Option AV := match b, vs with
  | .len, [x] => lenS h x
  | .all, [x] => (lstL h x).bind fun xs => (blsA xs).map fun bs => .bl (bs.all id)
  | .any, [x] => (lstL h x).bind fun xs => (blsA xs).map fun bs => .bl (bs.any id)
  | .isinst, [x, t] => (isiS T h x t).map .bl
  | .min2, [x, y] => intS (fun _ _ => True) (fun i j => .int (if j < i then j else i)) x y
  | .max2, [x, y] => intS (fun _ _ => True) (fun i j => .int (if j > i then j else i)) x y
  | .list, [x] => (itemsL h x).map .lst
  | .tuple, [x] => (itemsL h x).map .tup
  | .repr, [x] => reprS h x
  | _, _ => none
/-- the type of which a method is -/
def bmT : Bm → String
  | .popAt | .append => "list"
  | .split | .join | .upper => "str"
def tyM (h : AH) (m : Bm) (x : AV) : Bool := match bmT m, x with
  | "list", .ref l => match h[l]? with
    | some (.lst _) => true
    | _ => false
  | "str", .str _ => true
  | _, _ => false
def numL (h : AH) (x : AV) : Option (Nat × List AV) := match x with
  | .ref l => match h[l]? with
    | some (.lst xs) => some (l, xs)
    | _ => none
  | _ => none
def strO (x : AV) : Option Str := match x with
  | .str z => some z
  | _ => none
def intO (x : AV) : Option Int := match x with
  | .int z => some z
  | _ => none
/-- methods: what comes back, and the heap behind -/
def bmS (h : AH) (m : Bm) (x : AV) (vs : List AV) : Option (AV × AH) := match m, vs with
  | .popAt, [i] => (intO i).bind fun i => (numL h x).bind fun p => if -(2 ^ 63) ≤ i ∧ i < 2 ^ 63 then (seqIndex? i p.2.length).bind fun k => (p.2[k]?).map fun y => (y, h.set p.1 (.lst (p.2.eraseIdx k))) else none
  | .append, [y] => (numL h x).bind fun p => if p.2.length < sizeLine then some (.non, h.set p.1 (.lst (p.2 ++ [y]))) else none
  | .join, [y] => (strO x).bind fun z => (itemsL h y).bind fun xs => (strsA xs).bind fun ys => if (ys.map (·.length)).sum + ys.length * z.length ≤ 16777216 then some (.str (Txt.join z ys), h) else none
  | .upper, [] => (strO x).bind fun z => if z.length ≤ 5592405 then some (.str (Txt.upper z), h) else none
  | .split, [y] => (strO x).bind fun a => (strO y).bind fun b => if (b.length == 0) = false ∧ a.length + 2 ≤ sizeLine then some (.lst ((Txt.split a b).map .str), h) else none
  | _, _ => none
/-- a new list: a value, or numbered -/
def mkL (m : Bool) (vs : List AV) (h : AH) : Out AV := if m then .ok (.ref h.length) (h ++ [.lst vs]) else .ok (.lst vs) h
@[simp] def keysA : List AV → Option (List Key)
  | [] => some []
  | x :: xs => (keyA x).bind fun k => (keysA xs).map (k :: ·)
def mkD (m : Bool) (ks : List AV) (vs : List AV) (h : AH) : Out AV := match keysA ks with
  | some ks => if ks.Nodup ∧ ks.length = vs.length ∧ ks.length ≤ 15 then (if m then .ok (.ref h.length) (h ++ [.dct ks vs]) else .ok (.dct ks vs) h) else .stuck
  | none => .stuck
mutual
@[simp] def asgT : ITg → AV → En → Option En
  | .nm i, v, ρ => if i < ρ.length then some (ρ.set i (some v)) else none
  | .tp ts, .tup xs, ρ => asgTs ts xs ρ
  | .tp _, _, _ => none
@[simp] def asgTs : List ITg → List AV → En → Option En
  | [], [], ρ => some ρ
  | t :: ts, x :: xs, ρ => (asgT t x ρ).bind fun ρ => asgTs ts xs ρ
  | _, _, _ => none
end
@[simp] def wipeA (ρ : En) : List Nat → En
  | [] => ρ
  | v :: vs => (wipeA ρ vs).set v none
/-- what is walked: things that stand, or a numbered list of n things -/
inductive ASrc where
  | fix (xs : List AV)
  | live (r n : Nat)
def ASrc.len : ASrc → Nat
  | .fix xs => xs.length
  | .live _ n => n
def ASrc.fin (h : AH) : ASrc → Bool
  | .fix _ => true
  | .live r n => match h[r]? with
    | some (.lst xs) => xs.length == n
    | _ => false
def ASrc.get (h : AH) (i : Nat) : ASrc → Option AV
  | .fix xs => xs[i]?
  | .live r _ => match h[r]? with
    | some (.lst xs) => xs[i]?
    | _ => none
inductive AIt where
  | one (s : ASrc)
  | enum (s : ASrc)
  | zip (a b : ASrc)
def AIt.len : AIt → Nat
  | .one s | .enum s => s.len
  | .zip a b => min a.len b.len
def AIt.fin (h : AH) : AIt → Bool
  | .one s | .enum s => s.fin h
  | .zip a b => a.fin h && b.fin h
def AIt.get (h : AH) (i : Nat) : AIt → Option AV
  | .one s => s.get h i
  | .enum s => (s.get h i).map fun x => .tup [.int (i : Nat), x]
  | .zip a b => (a.get h i).bind fun x => (b.get h i).map fun y => .tup [x, y]
/-- the turns of a comprehension: f gives an element, or none where the test fails -/
def lcG (it : AIt) (f : AV → AH → Out (Option AV)) : Nat → Nat → List AV → AH → Out (List AV)
  | 0, _, acc, h => if it.fin h then .ok acc h else .stuck
  | k + 1, i, acc, h => if it.fin h then match it.get h i with
      | some x => match f x h with
        | .ok (some y) h => lcG it f k (i + 1) (acc ++ [y]) h
        | .ok none h => lcG it f k (i + 1) acc h
        | _ => .stuck
      | none => .stuck
    else .stuck
def srcL (h : AH) (v : AV) : Option ASrc := match v with
  | .lst xs => some (.fix xs)
  | .ref r => match h[r]? with
    | some (.lst xs) => some (.live r xs.length)
    | _ => none
  | _ => none
def srcA (h : AH) (v : AV) : Option ASrc := match v with
  | .tup xs => some (.fix xs)
  | .str z => some (.fix (z.cps.toList.map fun c => .str ⟨#[c]⟩))
  | v => srcL h v
def rngA (lo hi : Int) : List AV := (List.range (hi - lo).toNat).map fun (k : Nat) => AV.int (lo + k)

mutual
def evE (T : Tb) : IE → En → AH → Out AV
  | .var i, ρ, h => match ρ[i]? with
    | some (some v) => .ok v h
    | _ => .stuck
  | .cst c, _, h => .ok c h
  | .con x, _, h => pr (T.con x) h
  | .bin op a b, ρ, h => (evE T a ρ h).bind fun x h => (evE T b ρ h).bind fun y h => pr (binS op x y) h
  | .cmp op a b, ρ, h => (evE T a ρ h).bind fun x h => (evE T b ρ h).bind fun y h => pr ((cmpS h op x y).map .bl) h
  | .chn o1 o2 a b c, ρ, h => (evE T a ρ h).bind fun x h => (evE T b ρ h).bind fun y h => match cmpS h o1 x y with
    | some true => (evE T c ρ h).bind fun z h => pr ((cmpS h o2 y z).map .bl) h
    | some false => .ok (.bl false) h
    | none => .stuck
  | .land a b, ρ, h => (evE T a ρ h).bind fun x h => match truS h x with
    | some true => evE T b ρ h
    | some false => .ok x h
    | none => .stuck
  | .lor a b, ρ, h => (evE T a ρ h).bind fun x h => match truS h x with
    | some true => .ok x h
    | some false => evE T b ρ h
    | none => .stuck
  | .lnot a, ρ, h => (evE T a ρ h).bind fun x h => pr ((truS h x).map fun k => .bl !k) h
  | .neg a, ρ, h => (evE T a ρ h).bind fun x h => pr ((intO x).map fun i => .int (-i)) h
  | .ite c a b, ρ, h => (evT T c ρ h).bind fun k h => if k then evE T a ρ h else evE T b ρ h
  | .tup es, ρ, h => (evEs T es ρ h).bind fun vs h => .ok (.tup vs) h
  | .lst m es, ρ, h => (evEs T es ρ h).bind fun vs h => mkL m vs h
  | .dct m ps, ρ, h => (evP T ps ρ h).bind fun p h => mkD m p.1 p.2 h
  | .idx a b, ρ, h => (evE T a ρ h).bind fun x h => (evE T b ρ h).bind fun y h => pr (idxS h x y) h
  | .nop, _, h => .ok .non h
  | .slc a lo hi, ρ, h => (evE T a ρ h).bind fun x h => ((evE T lo ρ h).bind fun l h => pr (partS lo.isNop l) h).bind fun l h => ((evE T hi ρ h).bind fun u h => pr (partS hi.isNop u) h).bind fun u h => pr (slcS h x l u) h
  | .call f es, ρ, h => (evEs T es ρ h).bind fun vs h => callS T f vs [] [] h
  | .calk f es ks kvs, ρ, h => (evEs T es ρ h).bind fun vs h => (evEs T kvs ρ h).bind fun us h => callS T f vs ks us h
  | .bi b es, ρ, h => (evEs T es ρ h).bind fun vs h => pr (biS T h b vs) h
  | .bm m o es, ρ, h => (evE T o ρ h).bind fun x h => if tyM h m x then (evEs T es ρ h).bind fun vs h => pr2 (bmS h m x vs) else .stuck
  | .lc m own tg it c e, ρ, h => (evI T it ρ h).bind fun xs h => if xs.len ≤ sizeLine then
      (lcG xs (fun x h => match asgT tg x (wipeA ρ own) with
        | some ρ => (evT T c ρ h).bind fun k h => if k then (evE T e ρ h).bind fun y h => .ok (some y) h else .ok none h
        | none => .stuck) xs.len 0 [] h).bind fun ys h => mkL m ys h
    else .stuck
def evEs (T : Tb) : IEs → En → AH → Out (List AV)
  | .nil, _, h => .ok [] h
  | .cons e es, ρ, h => (evE T e ρ h).bind fun x h => (evEs T es ρ h).bind fun xs h => .ok (x :: xs) h
/-- keys and values of a display, in turn -/
def evP (T : Tb) : IPs → En → AH → Out (List AV × List AV)
  | .nil, _, h => .ok ([], []) h
  | .cons k v ps, ρ, h => (evE T k ρ h).bind fun x h => (evE T v ρ h).bind fun y h => (evP T ps ρ h).bind fun p h => .ok (x :: p.1, y :: p.2) h
def evT (T : Tb) : IT → En → AH → Out Bool
  | .tt, _, h => .ok true h
  | .val e, ρ, h => (evE T e ρ h).bind fun x h => pr (truS h x) h
  | .land a b, ρ, h => (evT T a ρ h).bind fun k h => if k then evT T b ρ h else .ok false h
  | .lor a b, ρ, h => (evT T a ρ h).bind fun k h => if k then .ok true h else evT T b ρ h
  | .lnot a, ρ, h => (evT T a ρ h).bind fun k h => .ok (!k) h
def evI (T : Tb) : II → En → AH → Out AIt
  | .val e, ρ, h => (evE T e ρ h).bind fun x h => pr ((srcA h x).map .one) h
  | .rng1 e, ρ, h => (evE T e ρ h).bind fun x h => match x with
    | .int j => if -(2 ^ 62) ≤ j ∧ j < 2 ^ 62 then .ok (.one (.fix (rngA 0 j))) h else .stuck
    | _ => .stuck
  | .rng2 a b, ρ, h => (evE T a ρ h).bind fun x h => (evE T b ρ h).bind fun y h => match x, y with
    | .int i, .int j => if -(2 ^ 62) ≤ i ∧ i < 2 ^ 62 ∧ -(2 ^ 62) ≤ j ∧ j < 2 ^ 62 then .ok (.one (.fix (rngA i j))) h else .stuck
    | _, _ => .stuck
  | .enum e, ρ, h => (evE T e ρ h).bind fun x h => pr ((srcL h x).map .enum) h
  | .zip a b, ρ, h => (evE T a ρ h).bind fun x h => (evE T b ρ h).bind fun y h => match x, y with
    | .tup xs, .tup ys => .ok (.zip (.fix xs) (.fix ys)) h
    | x, y => pr ((srcL h x).bind fun s => (srcL h y).map fun t => .zip s t) h
end
end Zk
/-! Part 3: the operations by values keep their word in the layer. -/
namespace Zk
open PySem L2

/-- an exception as it lies -/
def REx (K : Fg) (mg : Str → Option Value) (ι : Mp) (H : Hp) (e : AEx) (cls : Value) (d : Option Addr) : Prop :=
  ∃ C, mg e.cls = some (.ref C) ∧ cls = .ref C ∧ ((e.fs = [] ∧ d = none) ∨ ∃ dd gs, d = some dd ∧ H dd = some (.xd gs) ∧ ι.out dd ∧ RFs K mg ι H e.fs gs)

section
variable (K : Fg) (mg : Str → Option Value)
/-- a good end: what is wanted (Q of a value, E of an exception) holds of every heap in which the end lies -/
def GE {α β : Type} (R : Mp → Hp → α → β → Prop) (o : Out α) (ι : Mp) (H : Hp) (Q : β → Hp → Prop) (E : XK) : Prop := match o with
  | .stuck => False
  | .ok a h => ∀ ι' H' b, Ext ι H ι' H' → Rep K mg ι' h H' → R ι' H' a b → Q b H'
  | .ex e h => ∀ ι' H' cls d, Ext ι H ι' H' → Rep K mg ι' h H' → REx K mg ι' H' e cls d → E cls d H'
abbrev RVr : Mp → Hp → AV → V → Prop := fun ι H => RV K mg ι H
abbrev RVsr : Mp → Hp → List AV → List V → Prop := fun ι H => RVs K mg ι H
abbrev REq {α : Type} : Mp → Hp → α → α → Prop := fun _ _ a b => a = b
end
section
variable {K : Fg} {mg : Str → Option Value} {α β γ δ : Type} {R : Mp → Hp → α → β → Prop} {R' : Mp → Hp → γ → δ → Prop} {ι ι' : Mp} {H H' : Hp} {E : XK}
theorem GE.ext {o : Out α} {Q : β → Hp → Prop} (g : GE K mg R o ι H Q E) (e : Ext ι H ι' H') : GE K mg R o ι' H' Q E := by
  cases o with
  | stuck => exact g
  | ok a h => exact fun i1 H1 b e1 => g i1 H1 b (e.trans e1)
  | ex x h => exact fun i1 H1 c d e1 => g i1 H1 c d (e.trans e1)
theorem GE.bind {o : Out γ} {k : γ → AH → Out α} {Q : β → Hp → Prop} {Q' : δ → Hp → Prop} (g : GE K mg R (o.bind k) ι H Q E)
    (f : ∀ v h1 ι1 H1 x, o = .ok v h1 → Ext ι H ι1 H1 → Rep K mg ι1 h1 H1 → R' ι1 H1 v x → GE K mg R (k v h1) ι1 H1 Q E → Q' x H1) : GE K mg R' o ι H Q' E := by
  cases o with
  | stuck => exact g
  | ok a h => exact fun i1 H1 b e1 r1 rv => f a h i1 H1 b rfl e1 r1 rv (GE.ext g e1)
  | ex x h => exact g
theorem GE.mono {o : Out α} {Q Q' : β → Hp → Prop} (g : GE K mg R o ι H Q E) (f : ∀ b H1, Q b H1 → Q' b H1) : GE K mg R o ι H Q' E := by
  cases o with
  | stuck => exact g
  | ok a h => exact fun i1 H1 b e1 r1 rv => f b H1 (g i1 H1 b e1 r1 rv)
  | ex x h => exact g
/-- the end is here -/
theorem GE.here {a : α} {b : β} {h : AH} {Q : β → Hp → Prop} (g : GE K mg R (.ok a h) ι H Q E) (r : Rep K mg ι h H) (rv : R ι H a b) : Q b H := g ι H b .refl r rv
theorem GE.pr {a : Option α} {h : AH} {Q : β → Hp → Prop} (g : GE K mg R (Zk.pr a h) ι H Q E) : ∃ v, a = some v ∧ GE K mg R (.ok v h) ι H Q E := by
  cases a with
  | none => exact g.elim
  | some v => exact ⟨v, rfl, g⟩
/-- the end is at a new thing -/
theorem GE.new {a : α} {b : β} {h : AH} {Q : β → Hp → Prop} {p : Addr} {o : HO} (g : GE K mg R (.ok a h) ι H Q E) (r : Rep K mg ι h H) (hp : H p = none) (rv : R ι (upd H p o) a b) : Q b (upd H p o) := g ι _ b (.new hp) (r.new hp) rv
end

section
variable {K : Fg} {mg : Str → Option Value} {ι : Mp} {h : AH} {H : Hp}
theorem RV.flat {x : AV} {v : V} (r : RV K mg ι H x v) (f : flatA x = true) : flatV v = true := by
  cases r <;> first | rfl | exact absurd f Bool.false_ne_true
theorem RV.eqF {x y : AV} {v w : V} (r : RV K mg ι H x v) (q : RV K mg ι H y w) (f : flatA x = true) (g : flatA y = true) : eqV v w = eqF x y := by
  cases r <;> (first | exact absurd f Bool.false_ne_true | skip) <;> cases q <;> first | exact absurd g Bool.false_ne_true | rfl
theorem RVs.flat : ∀ {xs : List AV} {vs : List V}, RVs K mg ι H xs vs → xs.all flatA = true → vs.all flatV = true
  | _, _, .nil, _ => rfl
  | _, _, .cons r t, f => by
    rw [List.all_cons, Bool.and_eq_true] at f
    rw [List.all_cons, r.flat f.1, RVs.flat t f.2, Bool.and_self]
theorem RVs.anyF {x : AV} {v : V} (r : RV K mg ι H x v) (f : flatA x = true) : ∀ {ys : List AV} {ws : List V}, RVs K mg ι H ys ws → ys.all flatA = true → inV v ws = ys.any fun y => Zk.eqF y x
  | _, _, .nil, _ => rfl
  | _, _, .cons q t, g => by
    rw [List.all_cons, Bool.and_eq_true] at g
    show (eqV _ v || inV v _) = _
    rw [q.eqF r g.1 f, RVs.anyF r f t g.2]
    rfl
/-- what a value stands for: itself, or the numbered list, dict -/
theorem deref_lst {c : AV} {v : V} {ys : List AV} (R : Rep K mg ι h H) (r : RV K mg ι H c v) (e : deref h c = .lst ys) : ∃ a ws, v = .ref a ∧ SqL K H a ws ∧ RVs K mg ι H ys ws := by
  cases r with
  | lst f t => cases e; exact ⟨_, _, rfl, f.sq, t⟩
  | ref hi =>
    rename_i i a
    simp only [deref] at e
    cases q : h[i]? with
    | none => rw [q] at e; cases e
    | some o =>
      rw [q] at e
      obtain ⟨a', ha, ro⟩ := R.at q
      rw [hi] at ha; cases ha
      cases o with
      | lst xs => cases e; obtain ⟨vs, h1, h2⟩ := ro; exact ⟨_, vs, rfl, .inl (.inl h1), h2⟩
      | dct => cases e
      | ins => cases e
  | _ => cases e
theorem deref_tup {c : AV} {v : V} {ys : List AV} (R : Rep K mg ι h H) (r : RV K mg ι H c v) (e : deref h c = .tup ys) : ∃ a ws, v = .ref a ∧ FzT K ι H a ws ∧ RVs K mg ι H ys ws := by
  cases r with
  | tup f t => cases e; exact ⟨_, _, rfl, f, t⟩
  | ref hi =>
    rename_i i a
    simp only [deref] at e
    cases q : h[i]? with
    | none => rw [q] at e; cases e
    | some o => rw [q] at e; cases o <;> cases e
  | _ => cases e
theorem deref_str {c : AV} {v : V} {z : Str} (R : Rep K mg ι h H) (r : RV K mg ι H c v) (e : deref h c = .str z) : v = .str z := by
  cases r with
  | str s => cases e; rfl
  | ref hi =>
    rename_i i a
    simp only [deref] at e
    cases q : h[i]? with
    | none => rw [q] at e; cases e
    | some o => rw [q] at e; cases o <;> cases e
  | _ => cases e
theorem deref_dct {c : AV} {v : V} {ks : List Key} {ys : List AV} (R : Rep K mg ι h H) (r : RV K mg ι H c v) (e : deref h c = .dct ks ys) :
    ∃ a ws, v = .ref a ∧ Rd H a (.dK (ks.zip ws)) ∧ ks.length = ws.length ∧ RVs K mg ι H ys ws := by
  cases r with
  | dct f hl hn t => cases e; exact ⟨_, _, rfl, f.1, hl, t⟩
  | ref hi =>
    rename_i i a
    simp only [deref] at e
    cases q : h[i]? with
    | none => rw [q] at e; cases e
    | some o =>
      rw [q] at e
      obtain ⟨a', ha, ro⟩ := R.at q
      rw [hi] at ha; cases ha
      cases o with
      | lst xs => cases e
      | dct k2 xs => cases e; obtain ⟨vs, h1, h2, h3, h4⟩ := ro; exact ⟨_, vs, rfl, .inl h1, h2, h4⟩
      | ins => cases e
  | _ => cases e
mutual
theorem datA_ok : ∀ {x : AV} {v : V} {d : PyData}, RV K mg ι H x v → datA h 0 x = some d → L2.Dp K H v d
  | _, _, d, .non, e => by simp only [datA, Option.some.injEq] at e; subst e; exact .non
  | _, _, d, .bl b, e => by simp only [datA, Option.some.injEq] at e; subst e; exact .bl b
  | _, _, d, .int i, e => by simp only [datA, Option.some.injEq] at e; subst e; exact .int i
  | _, _, d, .str s, e => by simp only [datA, Option.some.injEq] at e; subst e; exact .str s
  | _, _, d, .tup (xs := xs) f t, e => by
    simp only [datA, Option.map_eq_some_iff] at e
    obtain ⟨ds, e1, rfl⟩ := e
    exact .tup f.sq (datAs_ok t e1)
  | _, _, d, .lst (xs := xs) f t, e => by
    simp only [datA, Option.map_eq_some_iff] at e
    obtain ⟨ds, e1, rfl⟩ := e
    exact .lst f.sq (datAs_ok t e1)
  | _, _, d, .dct .., e => by simp [datA] at e
  | _, _, d, .ref _, e => by simp [datA] at e
  | _, _, d, .glob _, e => by simp [datA] at e
  | _, _, d, .ty _, e => by simp [datA] at e
theorem datAs_ok : ∀ {xs : List AV} {vs : List V} {ds : List PyData}, RVs K mg ι H xs vs → datAs h 0 xs = some ds → L2.DpAll K H vs ds
  | _, _, ds, .nil, e => by simp only [datAs, Option.some.injEq] at e; subst e; exact .nil
  | _, _, ds, .cons r t, e => by
    simp only [datAs, Option.bind_eq_some_iff, Option.map_eq_some_iff] at e
    obtain ⟨d, e1, ds', e2, rfl⟩ := e
    exact .cons (datA_ok r e1) (datAs_ok t e2)
end
/-- == by data: numbered lists are read -/
theorem datD_ok {x : AV} {v : V} {d : PyData} (R : Rep K mg ι h H) (r : RV K mg ι H x v) (e : datA h 0 (deref h x) = some d) : L2.Dp K H v d := by
  cases x with
  | ref i =>
    cases q : deref h (.ref i) with
    | lst ys =>
      rw [q] at e
      obtain ⟨a, ws, rfl, s1, t⟩ := deref_lst R r q
      simp only [datA, Option.map_eq_some_iff] at e
      obtain ⟨ds, e1, rfl⟩ := e
      exact .lst s1 (datAs_ok t e1)
    | tup ys =>
      rw [q] at e
      obtain ⟨a, ws, rfl, s1, t⟩ := deref_tup R r q
      simp only [datA, Option.map_eq_some_iff] at e
      obtain ⟨ds, e1, rfl⟩ := e
      exact .tup s1.sq (datAs_ok t e1)
    | str z => have := deref_str R r q; subst this; rw [q] at e; simp only [datA, Option.some.injEq] at e; subst e; exact .str z
    | non | bl _ | int _ => 
      simp only [deref] at q
      split at q <;> cases q
    | _ => rw [q] at e; simp [datA] at e
  | _ => exact datA_ok r e
end

/-! ### two-place operations -/
section
variable {X : Cx}
/-- an operation by AV: f is its value, if it has one -/
def rA (K : Fg) (mg : Str → Option Value) (f : AH → AV → AV → Option AV) (E : XK) : R2 := fun x y H Q => ∃ ι h a b, Rep K mg ι h H ∧ RV K mg ι H a x ∧ RV K mg ι H b y ∧ GE K mg (RVr K mg) (Zk.pr (f h a b) h) ι H Q E
theorem rA_of {K : Fg} {mg : Str → Option Value} {f : AH → AV → AV → Option AV} {E : XK} {x y : V} {H : Hp} {Q : VK} (q : rA K mg f E x y H Q) :
    ∃ ι h a b c, Rep K mg ι h H ∧ RV K mg ι H a x ∧ RV K mg ι H b y ∧ f h a b = some c ∧ ∀ ι' H' z, Ext ι H ι' H' → Rep K mg ι' h H' → RV K mg ι' H' c z → Q z H' := by
  obtain ⟨ι, h, a, b, R, ra, rb, g⟩ := q
  obtain ⟨c, e, g⟩ := g.pr
  exact ⟨ι, h, a, b, c, R, ra, rb, e, g⟩
/-- two lists, wherever they lie, one behind the other -/
theorem op_catL : OpR X (binaryOp .Add) (fun x y H Q => ∃ l b xs zs, x = .ref l ∧ y = .ref b ∧ SqL X.K H l xs ∧ SqL X.K H b zs ∧ xs.length + zs.length ≤ sizeLine ∧ ∀ p, H p = none → Q (.ref p) (upd H p (.lst (xs ++ zs)))) := by
  intro pins s σ H x y v u Q I rx ry hq
  obtain ⟨l, b, xs, zs, rfl, rfl, hl, hb, hz, q⟩ := hq
  cases rx; cases ry
  obtain ⟨i1, r1, ⟨o1, n1, g1, c1, d1, e1⟩, z1⟩ := I.list hl
  obtain ⟨i2, r2, ⟨o2, n2, g2, c2, d2, e2⟩, z2⟩ := I.list hb
  obtain ⟨cl1, di1, da1, sl1⟩ := o1
  obtain ⟨cl2, di2, da2, sl2⟩ := o2
  simp only at c1 d1 e1 c2 d2 e2
  subst c1 d1 e1 c2 d2 e2
  have l1 := r1.length
  have l2 := r2.length
  have ec : i1.toArray ++ i2.toArray = (i1 ++ i2).toArray := by simp
  refine concat_meets ⟨_, g1, rfl⟩ ⟨_, g2, rfl⟩ noFill_list_add seq_list_add F.slot_list_add F.entry_list_add (F.args_list_add_2 _ _)
    (PyProof.Rows.list_addW l b i1.toArray i2.toArray n1 n2 none none sl1 sl2 (by rw [List.size_toArray, List.size_toArray]; omega)) ⟨g1, g2, ?_⟩
  rw [ec]
  exact ⟨.ref _, _, I.lnew (t' := s.toks) (r1.append r2) (by rw [List.length_append]; omega), rfl, q _ I.fresh⟩
def bopO : BOp → Operator
  | .add => .Add | .sub => .Sub | .mul => .Mult | .fdiv => .FloorDiv | .mod => .Mod | .pow => .Pow
theorem op_bin (op : BOp) {E : XK} : OpR X (binaryOp (bopO op)) (rA X.K X.mg (fun _ => binS op) E) := by
  intro pins s σ H x y v u Q I rx ry hq
  obtain ⟨ι, h, a, b, c, R, ra, rb, e, g⟩ := rA_of hq
  cases op with
  | add =>
    have e : addS a b = some c := e
    unfold addS at e
    split at e
    · cases e; cases ra; cases rb; exact op_add pins s σ H _ _ v u Q I rx ry ⟨_, _, rfl, rfl, g ι H _ .refl R (.int _)⟩
    · split at e
      · rename_i hz
        cases e; cases ra; cases rb
        exact op_add_str pins s σ H _ _ v u Q I rx ry ⟨_, _, rfl, rfl, hz, g ι H _ .refl R (.str _)⟩
      · cases e
    · split at e
      · rename_i hz
        cases e
        cases ra with
        | lst f1 t1 =>
          cases rb with
          | lst f2 t2 =>
            refine op_catL pins s σ H _ _ v u Q I rx ry ⟨_, _, _, _, rfl, rfl, f1.sq, f2.sq, by rw [← t1.length, ← t2.length]; exact hz, fun p hp => ?_⟩
            exact g ι _ _ (.new hp) (R.new hp) (.lst (.inl ⟨.inl upd_same, R.out hp⟩) ((t1.append t2).ext (.new hp)))
      · cases e
    · split at e
      · rename_i hz
        cases e
        cases ra with
        | tup f1 t1 =>
          cases rb with
          | tup f2 t2 =>
            refine op_catA pins s σ H _ _ v u Q I rx ry ⟨_, _, _, _, rfl, rfl, f1.sq, f2.sq, by rw [← t1.length, ← t2.length]; exact hz, fun e0 => ?_, fun _ e0 => ?_, fun _ _ p hp => ?_⟩
            · subst e0
              cases t1
              exact g ι _ _ .refl R (.tup f2 t2)
            · subst e0
              cases t2
              rw [List.append_nil] at g
              exact g ι _ _ .refl R (.tup f1 t1)
            · exact g ι _ _ (.new hp) (R.new hp) (.tup (.inl ⟨.inl upd_same, R.out hp⟩) ((t1.append t2).ext (.new hp)))
      · cases e
    · cases e
  | sub =>
    obtain ⟨i, j, rfl, rfl, hc, rfl⟩ := intS_inv e
    cases ra; cases rb
    exact op_sub pins s σ H _ _ v u Q I rx ry ⟨_, _, rfl, rfl, g ι H _ .refl R (.int _)⟩
  | mul =>
    obtain ⟨i, j, rfl, rfl, hc, rfl⟩ := intS_inv e
    cases ra; cases rb
    exact op_mul pins s σ H _ _ v u Q I rx ry ⟨_, _, rfl, rfl, hc, g ι H _ .refl R (.int _)⟩
  | fdiv =>
    obtain ⟨i, j, rfl, rfl, hc, rfl⟩ := intS_inv e
    cases ra; cases rb
    exact op_fdiv pins s σ H _ _ v u Q I rx ry ⟨_, _, rfl, rfl, hc, g ι H _ .refl R (.int _)⟩
  | mod =>
    obtain ⟨i, j, rfl, rfl, hc, rfl⟩ := intS_inv e
    cases ra; cases rb
    exact op_mod pins s σ H _ _ v u Q I rx ry ⟨_, _, rfl, rfl, hc, g ι H _ .refl R (.int _)⟩
  | pow =>
    obtain ⟨i, j, rfl, rfl, hc, rfl⟩ := intS_inv e
    cases ra; cases rb
    exact op_pow pins s σ H _ _ v u Q I rx ry ⟨_, _, rfl, rfl, hc, g ι H _ .refl R (.int _)⟩
/-! comparisons -/
def copO : COp → CmpOp
  | .eq => .Eq | .ne => .NotEq | .lt => .Lt | .le => .LtE | .gt => .Gt | .ge => .GtE | .isin => .In | .notin => .NotIn | .isN => .Is | .notN => .IsNot
theorem eqS_ok {K : Fg} {mg : Str → Option Value} {ι : Mp} {h : AH} {H : Hp} {a b : AV} {x y : V} {k : Bool} (R : Rep K mg ι h H) (ra : RV K mg ι H a x) (rb : RV K mg ι H b y) (e : eqS h a b = some k) :
    (flatV x = true ∧ flatV y = true ∧ eqV x y = k) ∨ ∃ d f, L2.Dp K H x d ∧ L2.Dp K H y f ∧ SeqAt.shaped d = true ∧ SeqAt.shaped f = true ∧ PyData.eqv d f = k := by
  unfold eqS at e
  split at e
  · rename_i hf
    rw [Bool.and_eq_true] at hf
    cases e
    exact .inl ⟨ra.flat hf.1, rb.flat hf.2, ra.eqF rb hf.1 hf.2⟩
  · split at e
    · rename_i d f h1 h2
      split at e
      · rename_i hs
        rw [Bool.and_eq_true] at hs
        cases e
        exact .inr ⟨d, f, datD_ok R ra h1, datD_ok R rb h2, hs.1, hs.2, rfl⟩
      · cases e
    · cases e
/-- == of flat values, of any kinds -/
theorem op_eqF {x y : V} {v u : Value} {pins : List (Addr × Obj)} {s : Shared} {σ : St} {H : Hp} {Q : VK} (hu : X.A.units + 64 < cLine) (I : Inv X pins σ H s) (rx : RelV x v) (ry : RelV y u) (fx : flatV x = true) (fy : flatV y = true) (q : Q (.bl (eqV x y)) H) :
    wpAny (model X.prog X.w) X.A (compareOp .Eq v u) (EP X pins σ Q) X.xe s := by
  by_cases hs : scal x y = true
  · have e : decide (x = y) = eqV x y := by
      cases x <;> cases y <;> first
        | rfl
        | exact absurd hs Bool.false_ne_true
        | exact absurd fx Bool.false_ne_true
        | (simp [eqV]; done)
        | (rw [Bool.eq_iff_iff]; simp [eqV])
    exact op_eq pins s σ H x y v u Q I rx ry ⟨hs, by rw [e]; exact q⟩
  · cases x <;> cases y <;> first
      | exact absurd rfl hs
      | exact absurd fx Bool.false_ne_true
      | exact absurd fy Bool.false_ne_true
      | exact op_eqD hu pins s σ H _ _ v u Q I rx ry ⟨_, _, .bl _, .int _, rfl, rfl, q⟩
      | exact op_eqD hu pins s σ H _ _ v u Q I rx ry ⟨_, _, .int _, .bl _, rfl, rfl, q⟩
theorem op_neF {x y : V} {v u : Value} {pins : List (Addr × Obj)} {s : Shared} {σ : St} {H : Hp} {Q : VK} (hu : X.A.units + 64 < cLine) (I : Inv X pins σ H s) (rx : RelV x v) (ry : RelV y u) (fx : flatV x = true) (fy : flatV y = true) (q : Q (.bl (!eqV x y)) H) :
    wpAny (model X.prog X.w) X.A (compareOp .NotEq v u) (EP X pins σ Q) X.xe s := by
  by_cases hs : scal x y = true
  · have e : decide (x = y) = eqV x y := by
      cases x <;> cases y <;> first
        | rfl
        | exact absurd hs Bool.false_ne_true
        | exact absurd fx Bool.false_ne_true
        | (simp [eqV]; done)
        | (rw [Bool.eq_iff_iff]; simp [eqV])
    exact op_ne pins s σ H x y v u Q I rx ry ⟨hs, by rw [e]; exact q⟩
  · cases x <;> cases y <;> first
      | exact absurd rfl hs
      | exact absurd fx Bool.false_ne_true
      | exact absurd fy Bool.false_ne_true
      | exact op_neD hu pins s σ H _ _ v u Q I rx ry ⟨_, _, .bl _, .int _, rfl, rfl, q⟩
      | exact op_neD hu pins s σ H _ _ v u Q I rx ry ⟨_, _, .int _, .bl _, rfl, rfl, q⟩
theorem str_one {y : Str} (h : y.length = 1) : y = ⟨#[y.cps.getD 0 0]⟩ := by
  obtain ⟨⟨l⟩⟩ := y
  match l, h with
  | [c], _ => rfl
theorem hasK_val {α : Type} [DecidableEq α] : ∀ {k : Key} {ks : List Key} {ws : List V}, ks.length = ws.length → (valV (ks.zip ws) k).isSome = hasK k ks
  | _, [], _, _ => by simp [valV, hasK]
  | _, _ :: _, [], h => by simp at h
  | k, j :: ks, w :: ws, h => by
    by_cases e : j = k
    · subst e; simp [valV, hasK]
    · have ih := hasK_val (α := α) (k := k) (ks := ks) (ws := ws) (by simpa using h)
      rw [List.zip_cons_cons, valV_neg e]
      simp only [hasK, if_neg e]
      exact ih
theorem inS_ok {K : Fg} {mg : Str → Option Value} {ι : Mp} {h : AH} {H : Hp} {a b : AV} {x y : V} {k : Bool} (R : Rep K mg ι h H) (ra : RV K mg ι H a x) (rb : RV K mg ι H b y) (e : inS h a b = some k) :
    (∃ p xs, y = .ref p ∧ (SqL K H p xs ∨ SqT K H p xs) ∧ flatV x = true ∧ xs.all flatV = true ∧ inV x xs = k) ∨
    (∃ c z, x = .str ⟨#[c]⟩ ∧ y = .str z ∧ decide (c ∈ z.cps.toList) = k) ∨ ∃ p o, y = .ref p ∧ DGet H p x o ∧ o.isSome = k := by
  unfold inS at e
  split at e
  · rename_i ys hd
    obtain ⟨p, ws, rfl, s1, t⟩ := deref_lst R rb hd
    split at e
    · rename_i hf
      rw [Bool.and_eq_true] at hf
      cases e
      exact .inl ⟨p, ws, rfl, .inl s1, ra.flat hf.1, t.flat hf.2, RVs.anyF ra hf.1 t hf.2⟩
    · cases e
  · rename_i ys hd
    obtain ⟨p, ws, rfl, s1, t⟩ := deref_tup R rb hd
    split at e
    · rename_i hf
      rw [Bool.and_eq_true] at hf
      cases e
      exact .inl ⟨p, ws, rfl, .inr s1.sq, ra.flat hf.1, t.flat hf.2, RVs.anyF ra hf.1 t hf.2⟩
    · cases e
  · rename_i z hd
    have := deref_str R rb hd
    subst this
    split at e
    · rename_i y'
      split at e
      · rename_i hl
        cases e
        cases ra
        exact .inr (.inl ⟨_, z, congrArg V.str (str_one hl), rfl, rfl⟩)
      · cases e
    · cases e
  · rename_i ks ys hd
    obtain ⟨p, ws, rfl, s1, hl, t⟩ := deref_dct R rb hd
    split at e
    · cases e; cases ra
      exact .inr (.inr ⟨p, _, rfl, .inl ⟨_, .inl _, s1, rfl, rfl⟩, hasK_val (α := Nat) hl⟩)
    · cases e; cases ra
      exact .inr (.inr ⟨p, _, rfl, .inl ⟨_, .inr _, s1, rfl, rfl⟩, hasK_val (α := Nat) hl⟩)
    · cases e
  · cases e
theorem RV.isN {K : Fg} {mg : Str → Option Value} {ι : Mp} {H : Hp} {a : AV} {x : V} (ra : RV K mg ι H a x) : noneB a = decide (x = .non) := by
  cases ra <;> rfl
theorem noneB_inv {a : AV} (h : noneB a = true) : a = .non := by
  cases a <;> first | rfl | exact absurd h Bool.false_ne_true
theorem op_cmp (op : COp) {E : XK} (hu : X.A.units + 64 < cLine) : OpR X (compareOp (copO op)) (rA X.K X.mg (fun h a b => (cmpS h op a b).map .bl) E) := by
  intro pins s σ H x y v u Q I rx ry hq
  obtain ⟨ι, h, a, b, c, R, ra, rb, e0, g⟩ := rA_of hq
  obtain ⟨k, e, ec⟩ := Option.map_eq_some_iff.mp e0
  subst ec
  clear e0
  have g' : ∀ k', k' = k → Q (.bl k') H := fun k' ek => by rw [ek]; exact g ι H _ .refl R (.bl k)
  cases op with
  | eq =>
    rcases eqS_ok R ra rb (show eqS h a b = some k from e) with ⟨f1, f2, ek⟩ | ⟨d, f, h1, h2, h3, h4, ek⟩
    · exact op_eqF hu I rx ry f1 f2 (g' _ ek)
    · exact op_eqD hu pins s σ H x y v u Q I rx ry ⟨d, f, h1, h2, h3, h4, g' _ ek⟩
  | ne =>
    obtain ⟨k0, e1, ek0⟩ := Option.map_eq_some_iff.mp (show (eqS h a b).map (!·) = some k from e)
    rcases eqS_ok R ra rb e1 with ⟨f1, f2, ek⟩ | ⟨d, f, h1, h2, h3, h4, ek⟩
    · exact op_neF hu I rx ry f1 f2 (g' _ (by rw [ek]; exact ek0))
    · exact op_neD hu pins s σ H x y v u Q I rx ry ⟨d, f, h1, h2, h3, h4, g' _ (by rw [ek]; exact ek0)⟩
  | lt =>
    obtain ⟨i, j, rfl, rfl, ek⟩ := intB_inv (show intB _ a b = some k from e)
    cases ra; cases rb
    exact op_lt pins s σ H _ _ v u Q I rx ry ⟨_, _, rfl, rfl, g' _ ek.symm⟩
  | le =>
    obtain ⟨i, j, rfl, rfl, ek⟩ := intB_inv (show intB _ a b = some k from e)
    cases ra; cases rb
    exact op_le pins s σ H _ _ v u Q I rx ry ⟨_, _, rfl, rfl, g' _ ek.symm⟩
  | gt =>
    obtain ⟨i, j, rfl, rfl, ek⟩ := intB_inv (show intB _ a b = some k from e)
    cases ra; cases rb
    exact op_gt pins s σ H _ _ v u Q I rx ry ⟨_, _, rfl, rfl, g' _ ek.symm⟩
  | ge =>
    obtain ⟨i, j, rfl, rfl, ek⟩ := intB_inv (show intB _ a b = some k from e)
    cases ra; cases rb
    exact op_ge pins s σ H _ _ v u Q I rx ry ⟨_, _, rfl, rfl, g' _ ek.symm⟩
  | isin =>
    rcases inS_ok R ra rb (show inS h a b = some k from e) with ⟨p, xs, rfl, h1, h2, h3, ek⟩ | ⟨c, z, rfl, rfl, ek⟩ | ⟨p, o, rfl, dg, ek⟩
    · exact op_in_seq pins s σ H _ _ v u Q I rx ry ⟨p, xs, rfl, h1, h2, h3, g' _ ek⟩
    · exact op_in_sign pins s σ H _ _ v u Q I rx ry ⟨c, z, rfl, rfl, g' _ ek⟩
    · obtain rfl : u = Value.ref p := ry
      exact d_in (by omega) I dg rx fun s3 I3 => ⟨.bl o.isSome, H, I3, rfl, g' _ ek⟩
  | notin =>
    obtain ⟨k0, e1, ek0⟩ := Option.map_eq_some_iff.mp (show (inS h a b).map (!·) = some k from e)
    rcases inS_ok R ra rb e1 with ⟨p, xs, rfl, h1, h2, h3, ek⟩ | ⟨c, z, rfl, rfl, ek⟩ | ⟨p, o, rfl, dg, ek⟩
    · exact op_notIn_seq pins s σ H _ _ v u Q I rx ry ⟨p, xs, rfl, h1, h2, h3, g' _ (by rw [ek]; exact ek0)⟩
    · exact op_notIn_sign pins s σ H _ _ v u Q I rx ry ⟨c, z, rfl, rfl, g' _ (by rw [ek]; exact ek0)⟩
    · obtain rfl : u = Value.ref p := ry
      exact d_notIn (by omega) I dg rx fun s3 I3 => ⟨.bl (!o.isSome), H, I3, rfl, g' _ (by rw [ek]; exact ek0)⟩
  | isN =>
    have e : (if noneB b then some (noneB a) else none) = some k := e
    split at e
    · rename_i hb
      have := noneB_inv hb
      subst this
      cases rb
      exact op_isN pins s σ H _ _ v u Q I rx ry ⟨rfl, g' _ (by rw [← ra.isN]; exact Option.some.inj e)⟩
    · cases e
  | notN =>
    have e : (if noneB b then some (!noneB a) else none) = some k := e
    split at e
    · rename_i hb
      have := noneB_inv hb
      subst this
      cases rb
      exact op_notN pins s σ H _ _ v u Q I rx ry ⟨rfl, g' _ (by rw [← ra.isN]; exact Option.some.inj e)⟩
    · cases e
end
end Zk
/-! Part 3b: subscripts, truth, built-in functions. -/
namespace Zk
open PySem L2
theorem atI_map {α β : Type} {xs : List α} {ys : List β} {i : Int} {v : α} (hl : xs.length = ys.length) (e : atI xs i = some v) : ∃ (j : Nat) (w : β), xs[j]? = some v ∧ ys[j]? = some w ∧ atI ys i = some w := by
  unfold atI at e ⊢
  rw [← hl]
  obtain ⟨j, h1, h2⟩ := Option.bind_eq_some_iff.mp e
  obtain ⟨hj, _⟩ := List.getElem?_eq_some_iff.mp h2
  exact ⟨j, ys[j]'(by omega), h2, by simp [show j < ys.length by omega], by rw [h1]; simp [show j < ys.length by omega]⟩
theorem atKey_val : ∀ {K : Fg} {mg : Str → Option Value} {ι : Mp} {H : Hp} {k : Key} {ks : List Key} {xs : List AV} {ws : List V} {v : AV}, RVs K mg ι H xs ws → atKey k ks xs = some v → ∃ w, valV (ks.zip ws) k = some w ∧ RV K mg ι H v w
  | _, _, _, _, _, [], _, _, _, _, e => by simp [atKey] at e
  | _, _, _, _, _, _ :: _, [], _, _, _, e => by simp [atKey] at e
  | _, _, _, _, k, j :: ks, x :: xs, _, v, .cons (v := w) r t, e => by
    by_cases hj : j = k
    · subst hj
      have e : (if j = j then some x else atKey j ks xs) = some v := e
      rw [if_pos rfl] at e
      cases e
      exact ⟨_, by rw [List.zip_cons_cons]; exact valV_pos rfl, r⟩
    · simp only [atKey, if_neg hj] at e
      obtain ⟨w2, h1, h2⟩ := atKey_val t e
      exact ⟨w2, by rw [List.zip_cons_cons, valV_neg hj]; exact h1, h2⟩
theorem keyA_V {K : Fg} {mg : Str → Option Value} {ι : Mp} {H : Hp} {x : AV} {v : V} {k : Key} (r : RV K mg ι H x v) (e : keyA x = some k) : v = kV k := by
  cases r <;> simp [keyA] at e <;> subst e <;> rfl
section
variable {X : Cx}
theorem ix_dict (hu : X.A.units + 1 < cLine) : IxR X (fun x y H Q => ∃ a v, x = .ref a ∧ DGet H a y (some v) ∧ Q v H) := by
  intro value slice pins s σ H x y v u Q I rx ry hq hs
  obtain ⟨a, z, rfl, g, q⟩ := hq
  cases rx
  exact PyProof.Rows.tail_any (dict_typeIs I g) F.slot_dict_getitem.lookup (d_getItem hu I g ry fun w' s' I' r' => ⟨z, H, I', r', q⟩) hs
theorem ix_all (hu : X.A.units + 1 < cLine) {E : XK} : IxR X (rA X.K X.mg (fun h a b => idxS h a b) E) := by
  intro value slice pins s σ H x y v u Q I rx ry hq hs
  obtain ⟨ι, h, a, b, c, R, ra, rb, e, g⟩ := rA_of hq
  have g' : ∀ z, RV X.K X.mg ι H c z → Q z H := fun z r => g ι H z .refl R r
  unfold idxS at e
  split at e
  · rename_i xs i hd
    obtain ⟨p, ws, rfl, s1, t⟩ := deref_lst R ra hd
    obtain ⟨j, w, h1, h2, h3⟩ := atI_map t.length e
    obtain ⟨x2, h4, h5⟩ := t.get h2
    rw [h1] at h4; cases h4
    cases rb
    exact ix_list value slice pins s σ H _ _ v u Q I rx ry ⟨p, ws, i, w, rfl, rfl, s1, h3, g' w h5⟩ hs
  · rename_i xs i hd
    obtain ⟨p, ws, rfl, s1, t⟩ := deref_tup R ra hd
    obtain ⟨j, w, h1, h2, h3⟩ := atI_map t.length e
    obtain ⟨x2, h4, h5⟩ := t.get h2
    rw [h1] at h4; cases h4
    cases rb
    exact ix_tup value slice pins s σ H _ _ v u Q I rx ry ⟨p, ws, i, w, rfl, rfl, s1.sq, h3, g' w h5⟩ hs
  · rename_i z i hd
    have := deref_str R ra hd
    subst this
    split at e
    · rename_i hz
      obtain ⟨ch, h1, rfl⟩ := Option.map_eq_some_iff.mp e
      cases rb
      exact ix_str value slice pins s σ H _ _ v u Q I rx ry ⟨z, i, ch, rfl, rfl, hz, h1, g' _ (.str _)⟩ hs
    · cases e
  · rename_i ks ys i hd
    obtain ⟨k, h1, h2⟩ := Option.bind_eq_some_iff.mp e
    obtain ⟨p, ws, rfl, s1, hl, t⟩ := deref_dct R ra hd
    obtain ⟨w, h3, h4⟩ := atKey_val t h2
    refine ix_dict hu value slice pins s σ H _ _ v u Q I rx ry ⟨p, w, rfl, .inl ⟨_, k, s1, keyA_V rb h1, h3.symm⟩, g' w h4⟩ hs
  · cases e
/-- a value's truth -/
theorem truS_ok {K : Fg} {mg : Str → Option Value} {ι : Mp} {h : AH} {H : Hp} {a : AV} {x : V} {k : Bool} (R : Rep K mg ι h H) (ra : RV K mg ι H a x) (e : truS h a = some k) :
    TruV K x H k := by
  cases ra with
  | non => cases e; exact rfl
  | bl b => cases e; exact rfl
  | int i => cases e; exact rfl
  | str s =>
    simp only [truS] at e
    split at e
    · rename_i hz; cases e; exact ⟨hz, rfl⟩
    · cases e
  | tup f t => cases e; exact .inr (.inl ⟨_, f.sq, by cases t <;> rfl⟩)
  | lst f t => cases e; exact .inl ⟨_, f.sq, by cases t <;> rfl⟩
  | ref hi =>
    simp only [truS] at e
    split at e
    · rename_i xs hx
      cases e
      obtain ⟨a', ha, vs, h1, t⟩ := R.at hx
      rw [hi] at ha; cases ha
      exact .inl ⟨vs, .inl (.inl h1), by cases t <;> rfl⟩
    · rename_i ks xs hx
      cases e
      obtain ⟨a', ha, vs, h1, hl, _, t⟩ := R.at hx
      rw [hi] at ha; cases ha
      refine .inr (.inr ⟨_, h1, ?_⟩)
      cases ks with
      | nil => rfl
      | cons k ks => cases vs with
        | nil => simp at hl
        | cons v vs => rfl
    · cases e
  | _ => cases e
/-! ### built-in functions -/
/-- a call by AV -/
def rB (K : Fg) (mg : Str → Option Value) (f : AH → List AV → Option AV) (E : XK) : List V → Hp → VK → Prop := fun xs H Q => ∃ ι h as, Rep K mg ι h H ∧ RVs K mg ι H as xs ∧ GE K mg (RVr K mg) (Zk.pr (f h as) h) ι H Q E
theorem rB_of {K : Fg} {mg : Str → Option Value} {f : AH → List AV → Option AV} {E : XK} {xs : List V} {H : Hp} {Q : VK} (q : rB K mg f E xs H Q) :
    ∃ ι h as c, Rep K mg ι h H ∧ RVs K mg ι H as xs ∧ f h as = some c ∧ ∀ ι' H' z, Ext ι H ι' H' → Rep K mg ι' h H' → RV K mg ι' H' c z → Q z H' := by
  obtain ⟨ι, h, as, R, ra, g⟩ := q
  obtain ⟨c, e, g⟩ := g.pr
  exact ⟨ι, h, as, c, R, ra, e, g⟩
/-- what isinstance asks of a class of the program -/
structure InsC (K : Fg) (C : Addr) : Prop where
  cl : Cls K C
  ha : PySem.W.findIn K (.ref C) "__class__" = some (some (.builtin "object.__class__"))
  hn : PySem.W.specialIn K (.builtin "object.__class__") "__get__" = some (some (.builtin "getset_descriptor.__get__"))
  ht : PySem.W.takesIn K (.builtin "object.__class__") = some true
  hm : PySem.W.mroIn K C (.type "object") = some true
structure IsiOk (K : Fg) (mg : Str → Option Value) (T : Tb) : Prop where
  own : ∀ c d b, T.isi c d = some b → ∃ C D, mg c = some (.ref C) ∧ mg d = some (.ref D) ∧ InsC K C ∧ PySem.W.kitOne K (.ref C) (.ref D) = some b
  out : ∀ d a, T.isi d d = some true → a ∈ tyNames → ∃ D, mg d = some (.ref D) ∧ PySem.W.kitOne K (.type a) (.ref D) = some false
  inn : ∀ c b, T.isi c c = some true → b ∈ tyNames → ∃ C, mg c = some (.ref C) ∧ InsC K C ∧ PySem.W.kitOne K (.ref C) (.type b) = some false
theorem KT.k {K : Fg} {a : Addr} {vs : List V} (h : KT K a vs) : ∃ o, K.lookup a = some o ∧ o.cls = .type "tuple" := by
  rcases h with (h | ⟨o, h⟩) | ⟨o, its, n, h1, h2, _⟩
  · cases h
  · cases h
  · exact ⟨o, h1, h2⟩
theorem KL.k {K : Fg} {a : Addr} {vs : List V} (h : KL K a vs) : ∃ o, K.lookup a = some o ∧ o.cls = .type "list" := by
  rcases h with (h | ⟨o, h⟩) | ⟨o, its, n, h1, h2, _⟩
  · cases h
  · cases h
  · exact ⟨o, h1, h2⟩
theorem tyA_ok {K : Fg} {mg : Str → Option Value} {ι : Mp} {h : AH} {H : Hp} {a : AV} {x : V} {t : String ⊕ Str} (R : Rep K mg ι h H) (ra : RV K mg ι H a x) (e : tyA h a = some t) :
    match t with
    | .inl n => TyX K H x (.type n)
    | .inr c => ∃ C, mg c = some (.ref C) ∧ (InsC K C → TyX K H x (.ref C)) := by
  cases ra with
  | non => cases e; exact .base .non
  | bl b => cases e; exact .base (.bl b)
  | int i => cases e; exact .base (.int i)
  | str s => cases e; exact .base (.str s)
  | tup f t =>
    cases e
    rcases f with ⟨f | ⟨o, f⟩, _⟩ | f
    · exact .base (.tup f)
    · exact .fTuple f
    · obtain ⟨o, h1, h2⟩ := f.k; exact .kTuple h1 h2
  | lst f t =>
    cases e
    rcases f with ⟨f | ⟨o, f⟩, _⟩ | f
    · exact .base (.lst f)
    · exact .base (.frz f)
    · obtain ⟨o, h1, h2⟩ := f.k; exact .kList h1 h2
  | dct f _ _ t =>
    cases e
    rcases f with ⟨f | ⟨o, f⟩, _⟩
    · exact .base (.dK f)
    · exact .fDict f
  | ref hi =>
    simp only [tyA] at e
    split at e
    · rename_i xs hx
      cases e
      obtain ⟨a', ha, vs, h1, t⟩ := R.at hx
      rw [hi] at ha; cases ha
      exact .base (.lst h1)
    · rename_i ks xs hx
      cases e
      obtain ⟨a', ha, vs, h1, t⟩ := R.at hx
      rw [hi] at ha; cases ha
      exact .base (.dK h1)
    · rename_i c fs hx
      cases e
      obtain ⟨a', ha, C, dx, gs, h1, h2, h3, h4⟩ := R.at hx
      rw [hi] at ha; cases ha
      exact ⟨C, h1, fun i => .base (.ins h2 i.cl i.ha i.hn i.ht i.hm)⟩
    · cases e
  | _ => cases e
theorem isi_ok {T : Tb} {ι : Mp} {h : AH} {H : Hp} {a t : AV} {x y : V} {k : Bool} {K : Fg} {mg : Str → Option Value} (O : IsiOk K mg T) (R : Rep K mg ι h H) (ra : RV K mg ι H a x) (rt : RV K mg ι H t y) (e : isiS T h a t = some k) :
    ∃ u v, ClsV y u ∧ TyX K H x v ∧ PySem.W.kitOne K v u = some k := by
  unfold isiS at e
  split at e
  · cases e
  · rename_i n hn
    have z := tyA_ok R ra hn
    split at e
    · rename_i b
      cases rt
      exact ⟨_, _, .ty b, z, kit_ty e⟩
    · rename_i d
      split at e
      · rename_i hd
        cases e
        obtain ⟨D, h1, h2⟩ := O.out d n hd.1 hd.2
        cases rt with
        | glob q =>
          rw [h1] at q; cases q
          exact ⟨_, _, .own D, z, h2⟩
      · cases e
    · cases e
  · rename_i c hc
    obtain ⟨C, z1, z⟩ := tyA_ok R ra hc
    split at e
    · rename_i b
      split at e
      · rename_i hd
        cases e
        obtain ⟨C', h1, h2, h3⟩ := O.inn c b hd.1 hd.2
        rw [z1] at h1; cases h1
        cases rt
        exact ⟨_, _, .ty b, z h2, h3⟩
      · cases e
    · rename_i d
      obtain ⟨C', D, h1, h2, h3, h4⟩ := O.own c d k e
      rw [z1] at h1; cases h1
      cases rt with
      | glob q =>
        rw [h2] at q; cases q
        exact ⟨_, _, .own D, z h3, h4⟩
    · cases e
theorem itemsL_ok {K : Fg} {mg : Str → Option Value} {ι : Mp} {h : AH} {H : Hp} {a : AV} {x : V} {xs : List AV} (R : Rep K mg ι h H) (ra : RV K mg ι H a x) (e : itemsL h a = some xs) : ∃ p ws, x = .ref p ∧ (SqL K H p ws ∨ SqT K H p ws) ∧ RVs K mg ι H xs ws := by
  unfold itemsL at e
  split at e
  · rename_i ys hd
    cases e
    obtain ⟨p, ws, rfl, s1, t⟩ := deref_lst R ra hd
    exact ⟨p, ws, rfl, .inl s1, t⟩
  · rename_i ys hd
    cases e
    obtain ⟨p, ws, rfl, s1, t⟩ := deref_tup R ra hd
    exact ⟨p, ws, rfl, .inr s1.sq, t⟩
  · cases e
theorem blsA_ok {K : Fg} {mg : Str → Option Value} {ι : Mp} {H : Hp} : ∀ {xs : List AV} {ws : List V} {bs : List Bool}, RVs K mg ι H xs ws → blsA xs = some bs → ws = bs.map V.bl
  | _, _, _, .nil, e => by cases e; rfl
  | _, _, _, .cons r t, e => by
    cases r with
    | bl b =>
      obtain ⟨bs', h1, h2⟩ := Option.map_eq_some_iff.mp e
      subst h2
      rw [blsA_ok t h1]
      rfl
    | _ => cases e
theorem strsA_ok {K : Fg} {mg : Str → Option Value} {ι : Mp} {H : Hp} : ∀ {xs : List AV} {ws : List V} {bs : List Str}, RVs K mg ι H xs ws → strsA xs = some bs → ws = bs.map V.str
  | _, _, _, .nil, e => by cases e; rfl
  | _, _, _, .cons r t, e => by
    cases r with
    | str b =>
      obtain ⟨bs', h1, h2⟩ := Option.map_eq_some_iff.mp e
      subst h2
      rw [strsA_ok t h1]
      rfl
    | _ => cases e
end
end Zk
/-! Part 3c: built-in functions and methods by values. -/
namespace Zk
open PySem L2
section
variable {X : Cx}
def biV : Bi → Value
  | .len => .builtin "len" | .all => .builtin "all" | .any => .builtin "any" | .isinst => .builtin "isinstance" | .repr => .builtin "repr"
  | .min2 => .builtin "min" | .max2 => .builtin "max" | .list => .type "list" | .tuple => .type "tuple" | .sorted => .builtin "sorted"
theorem lstL_ok {K : Fg} {mg : Str → Option Value} {ι : Mp} {h : AH} {H : Hp} {a : AV} {x : V} {xs : List AV} (R : Rep K mg ι h H) (ra : RV K mg ι H a x) (e : lstL h a = some xs) : ∃ p ws, x = .ref p ∧ SqL K H p ws ∧ RVs K mg ι H xs ws := by
  unfold lstL at e
  split at e
  · rename_i ys hd
    cases e
    obtain ⟨p, ws, rfl, s1, t⟩ := deref_lst R ra hd
    exact ⟨p, ws, rfl, s1, t⟩
  · cases e
theorem one_of {K : Fg} {mg : Str → Option Value} {ι : Mp} {H : Hp} {x : AV} {xs : List V} (r : RVs K mg ι H [x] xs) : ∃ v, xs = [v] ∧ RV K mg ι H x v := by
  cases r with
  | cons r t => cases t; exact ⟨_, rfl, r⟩
theorem two_of {K : Fg} {mg : Str → Option Value} {ι : Mp} {H : Hp} {x y : AV} {xs : List V} (r : RVs K mg ι H [x, y] xs) : ∃ v w, xs = [v, w] ∧ RV K mg ι H x v ∧ RV K mg ι H y w := by
  cases r with
  | cons r t => cases t with
    | cons r2 t => cases t; exact ⟨_, _, rfl, r, r2⟩
theorem noDictAs {h : AH} : ∀ {xs : List AV} {ds : List PyData}, (∀ x d, x ∈ xs → datA h 0 x = some d → d.hasDict = false) → datAs h 0 xs = some ds → PyData.hasDictAll ds = false
  | [], _, _, e => by simp only [datAs, Option.some.injEq] at e; subst e; rfl
  | x :: xs, _, k, e => by
    simp only [datAs, Option.bind_eq_some_iff, Option.map_eq_some_iff] at e
    obtain ⟨d, e1, ds, e2, rfl⟩ := e
    simp only [PyData.hasDictAll, k x d List.mem_cons_self e1, noDictAs (fun y f hy => k y f (List.mem_cons_of_mem _ hy)) e2, Bool.or_self]
theorem noDictA {h : AH} : ∀ {x : AV} {d : PyData}, datA h 0 x = some d → d.hasDict = false
  | .non, _, e => by simp only [datA, Option.some.injEq] at e; subst e; rfl
  | .bl _, _, e => by simp only [datA, Option.some.injEq] at e; subst e; rfl
  | .int _, _, e => by simp only [datA, Option.some.injEq] at e; subst e; rfl
  | .str _, _, e => by simp only [datA, Option.some.injEq] at e; subst e; rfl
  | .tup xs, _, e => by
    simp only [datA, Option.map_eq_some_iff] at e
    obtain ⟨ds, e1, rfl⟩ := e
    simp only [PyData.hasDict]
    exact noDictAs (fun x d _ h => noDictA h) e1
  | .lst xs, _, e => by
    simp only [datA, Option.map_eq_some_iff] at e
    obtain ⟨ds, e1, rfl⟩ := e
    simp only [PyData.hasDict]
    exact noDictAs (fun x d _ h => noDictA h) e1
  | .dct .., _, e => by simp [datA] at e
  | .ref _, _, e => by simp [datA] at e
  | .glob _, _, e => by simp [datA] at e
  | .ty _, _, e => by simp [datA] at e
mutual
theorem datT_reads {pins : List (Addr × Obj)} {σ : St} {s : Shared} {ι : Mp} {H : Hp} (I : Inv X pins σ H s) : ∀ {x : AV} {v : V} {u : Value} {d : PyData}, RV X.K X.mg ι H x v → datT x = some d → RelV v u → Reads s.heap u d []
  | _, _, u, d, .non, e, r => by simp only [datT, Option.some.injEq] at e; subst e; cases r; exact .none
  | _, _, u, d, .bl b, e, r => by simp only [datT, Option.some.injEq] at e; subst e; cases r; exact .bool b
  | _, _, u, d, .int i, e, r => by simp only [datT, Option.some.injEq] at e; subst e; obtain ⟨t, rfl⟩ := r; exact .int i t
  | _, _, u, d, .str z, e, r => by simp only [datT, Option.some.injEq] at e; subst e; obtain ⟨t, rfl⟩ := r; exact .str z t
  | _, _, u, d, .tup f t, e, r => by
    simp only [datT, Option.map_eq_some_iff] at e
    obtain ⟨ds, e1, rfl⟩ := e
    cases r
    obtain ⟨its, rv, ⟨o, ho, hc, n, hd⟩, _⟩ := I.tuple f.sq
    exact .tuple ho hc hd (datTs_reads I t e1 rv)
  | _, _, _, d, .lst .., e, _ => by simp [datT] at e
  | _, _, _, d, .dct .., e, _ => by simp [datT] at e
  | _, _, _, d, .ref _, e, _ => by simp [datT] at e
  | _, _, _, d, .glob _, e, _ => by simp [datT] at e
  | _, _, _, d, .ty _, e, _ => by simp [datT] at e
theorem datTs_reads {pins : List (Addr × Obj)} {σ : St} {s : Shared} {ι : Mp} {H : Hp} (I : Inv X pins σ H s) : ∀ {xs : List AV} {vs : List V} {us : List Value} {ds : List PyData}, RVs X.K X.mg ι H xs vs → datTs xs = some ds → Vals vs us → ReadsAll s.heap us ds []
  | _, _, us, ds, .nil, e, r => by simp only [datTs, Option.some.injEq] at e; subst e; cases r; exact .nil
  | _, _, us, ds, .cons h t, e, r => by
    simp only [datTs, Option.bind_eq_some_iff, Option.map_eq_some_iff] at e
    obtain ⟨d, e1, ds', e2, rfl⟩ := e
    cases r with
    | cons r1 r2 => exact ReadsAll.cons (as := []) (bs := []) (datT_reads I h e1 r1) (datTs_reads I t e2 r2)
end
theorem pairs_reads {pins : List (Addr × Obj)} {σ : St} {s : Shared} {ι : Mp} {H : Hp} (I : Inv X pins σ H s) : ∀ {ks : List Key} {xs : List AV} {ws : List V} {ds : List PyData} {es : List DictEntry} {rs : List (Key × Value)}, Pairs (mixKind X.prog X.w) es rs → KV (ks.zip ws) rs → ks.length = ws.length →
    RVs X.K X.mg ι H xs ws → datTs xs = some ds → ReadsAll s.heap (es.map (·.key)) (((ks.map keyD).zip ds).map (·.1)) [] ∧ ReadsAll s.heap (es.map (·.val)) (((ks.map keyD).zip ds).map (·.2)) []
  | [], _, _, _, _, _, p, kv, hl, t, e => by
    cases kv
    cases p
    exact ⟨.nil, .nil⟩
  | k :: ks, _, [], _, _, _, _, _, hl, _, _ => by simp at hl
  | k :: ks, _, w :: ws, _, _, _, p, kv, hl, t, e => by
    cases t with
    | cons r t =>
      simp only [datTs, Option.bind_eq_some_iff, Option.map_eq_some_iff] at e
      obtain ⟨d, e1, ds', e2, rfl⟩ := e
      rw [List.zip_cons_cons] at kv
      cases kv with
      | cons q kv =>
        cases p with
        | cons p1 p2 p =>
          obtain ⟨i1, i2⟩ := pairs_reads I p kv (by simpa using hl) t e2
          obtain ⟨q1, q2⟩ := q
          refine ⟨?_, ?_⟩
          · refine ReadsAll.cons (as := []) (bs := []) ?_ i1
            rcases keyIs_shape p1 with ⟨i, t, z1, z2⟩ | ⟨x, t, z1, z2⟩
            · have z : k = .inl i := q1.trans z1
              subst z
              dsimp only
              rw [z2]
              exact .int i t
            · have z : k = .inr x := q1.trans z1
              subst z
              dsimp only
              rw [z2]
              exact .str x t
          · refine ReadsAll.cons (as := []) (bs := []) ?_ i2
            dsimp only
            rw [p2]
            exact datT_reads I r e1 q2
/-- data behind a reference -/
theorem datR_reads {pins : List (Addr × Obj)} {σ : St} {s : Shared} {ι : Mp} {h : AH} {H : Hp} (I : Inv X pins σ H s) (R : Rep X.K X.mg ι h H) {x : AV} {v : V} {u : Value} {d : PyData} (r : RV X.K X.mg ι H x v) (e : datR h x = some d) (rv : RelV v u) : ∃ as, Reads s.heap u d as ∧ (d.hasDict = true → sysModules ∉ as) := by
  unfold datR at e
  split at e
  · rename_i ks vs hd
    obtain ⟨ds, e1, rfl⟩ := Option.map_eq_some_iff.mp e
    obtain ⟨a, ws, rfl, k1, k2, t⟩ := deref_dct R r hd
    cases rv
    obtain ⟨_, hs, rs, kv, o, es, ep, h1, h2, h3, _, hp, _⟩ := dk_rd I.hok k1
    obtain ⟨i1, i2⟩ := pairs_reads I hp kv k2 t e1
    refine ⟨_, Reads.dict h1 h2.1 h3 i1 i2, fun _ z => ?_⟩
    have z : sysModules = a := by simpa using z
    rw [← z] at hs
    simp at hs
  · rename_i hd
    obtain ⟨as, h1⟩ := Dp.reads I d v u (datD_ok R r e) rv
    refine ⟨as, h1, fun z => ?_⟩
    exact absurd (noDictA e) (by rw [z]; simp)
theorem rp_ok {pins : List (Addr × Obj)} {σ : St} {s : Shared} {ι : Mp} {h : AH} {H : Hp} {Q : VK} (hg : X.A.guards = some []) (hu : X.A.units + 200 < cLine) (I : Inv X pins σ H s) (R : Rep X.K X.mg ι h H) {x c : AV} {v : V} {u : Value} (r : RV X.K X.mg ι H x v) (rv : RelV v u) (e : reprS h x = some c) (q : ∀ z, c = .str z → Q (.str z) H) :
    wpAny (model X.prog X.w) X.A (call (.builtin "repr") [u]) (EP X pins σ Q) X.xe s := by
  unfold reprS at e
  obtain ⟨d, e1, e⟩ := Option.bind_eq_some_iff.mp e
  split at e
  · rename_i hc
    obtain ⟨c1, c2, c3⟩ := hc
    cases e
    have q := q _ rfl
    obtain ⟨as, h1, h2⟩ := datR_reads I R r e1 rv
    have byRef : ∀ a, u = .ref a → wpAny (model X.prog X.w) X.A (call (.builtin "repr") [u]) (EP X pins σ Q) X.xe s := by
      rintro a rfl
      exact repr_of_reads' h1 c1 h2 hg (by omega) (fun _ _ z => z) (fun h' t tk k => ⟨.str d.shown, H, I.kept k, ⟨t, rfl⟩, q⟩) c2
    cases h1 with
    | none => exact PySem.P.repr_of_none ⟨.str "None", H, I.tok _, ⟨_, rfl⟩, q⟩
    | bool b => exact PySem.P.repr_of_bool ⟨.str (if b then "True" else "False"), H, I.tok _, ⟨_, rfl⟩, q⟩
    | int i t => exact PySem.P.repr_of_int (by simpa [PyData.showable] using c1) ⟨.str (toString i), H, I.tok _, ⟨_, rfl⟩, q⟩
    | str z t => exact PySem.P.repr_of_str (by exact ⟨.str (reprText z), H, I.tok _, ⟨_, rfl⟩, q⟩) (hsz := c2)
    | list => exact byRef _ rfl
    | tuple => exact byRef _ rfl
    | dict => exact byRef _ rfl
  · cases e
theorem call_bi (T : Tb) (O : IsiOk X.K X.mg T) (hc : X.calm = true) (hg : X.A.guards = some []) (hu : X.A.units + 200 < cLine) (b : Bi) {E : XK} : CallR X (biV b) (rB X.K X.mg (fun h vs => biS T h b vs) E) := by
  intro pins s σ H xs us Q I r hq
  obtain ⟨ι, h, as, c, R, ra, e, g⟩ := rB_of hq
  have g' : ∀ z, RV X.K X.mg ι H c z → Q z H := fun z r => g ι H z .refl R r
  unfold biS at e
  split at e
  · rename_i x
    obtain ⟨v, rfl, rv⟩ := one_of ra
    unfold lenS at e
    split at e
    · rename_i ys hd
      cases e
      obtain ⟨p, ws, rfl, s1, t⟩ := deref_lst R rv hd
      exact call_len_seq pins s σ H _ us Q I r ⟨p, ws, rfl, .inl s1, g' _ (by rw [t.length]; exact .int _)⟩
    · rename_i ys hd
      cases e
      obtain ⟨p, ws, rfl, s1, t⟩ := deref_tup R rv hd
      exact call_len_seq pins s σ H _ us Q I r ⟨p, ws, rfl, .inr s1.sq, g' _ (by rw [t.length]; exact .int _)⟩
    · rename_i z hd
      have := deref_str R rv hd
      subst this
      split at e
      · rename_i hz
        cases e
        exact call_len_str pins s σ H _ us Q I r ⟨z, rfl, hz, g' _ (.int _)⟩
      · cases e
    · rename_i ks ys hd
      cases e
      obtain ⟨p, ws, rfl, s1, hl, t⟩ := deref_dct R rv hd
      obtain ⟨u, rfl, ru⟩ := vals1 r
      cases ru
      refine d_len I s1 fun t s' I' => ⟨.int _, H, I', ⟨t, rfl⟩, g' _ ?_⟩
      rw [List.length_zip, ← hl, Nat.min_self]
      exact .int _
    · cases e
  · rename_i x
    obtain ⟨v, rfl, rv⟩ := one_of ra
    obtain ⟨ys, h1, h2⟩ := Option.bind_eq_some_iff.mp e
    obtain ⟨bs, h3, rfl⟩ := Option.map_eq_some_iff.mp h2
    obtain ⟨p, ws, rfl, s1, t⟩ := lstL_ok R rv h1
    rw [blsA_ok t h3] at s1
    exact cr_all hc pins s σ H _ us Q I r ⟨p, bs, rfl, s1, g' _ (.bl _)⟩
  · rename_i x
    obtain ⟨v, rfl, rv⟩ := one_of ra
    obtain ⟨ys, h1, h2⟩ := Option.bind_eq_some_iff.mp e
    obtain ⟨bs, h3, rfl⟩ := Option.map_eq_some_iff.mp h2
    obtain ⟨p, ws, rfl, s1, t⟩ := lstL_ok R rv h1
    rw [blsA_ok t h3] at s1
    exact cr_any hc pins s σ H _ us Q I r ⟨p, bs, rfl, s1, g' _ (.bl _)⟩
  · rename_i x t
    obtain ⟨v, w, rfl, rv, rw'⟩ := two_of ra
    obtain ⟨k, h1, rfl⟩ := Option.map_eq_some_iff.mp e
    obtain ⟨u1, v1, c1, c2, c3⟩ := isi_ok O R rv rw' h1
    exact call_isi pins s σ H _ us Q I r ⟨v, w, v1, u1, k, rfl, c1, c2, c3, g' _ (.bl _)⟩
  · rename_i x y
    obtain ⟨v, w, rfl, rv, rw'⟩ := two_of ra
    obtain ⟨i, j, rfl, rfl, _, rfl⟩ := intS_inv e
    cases rv; cases rw'
    exact call_min2 hc pins s σ H _ us Q I r ⟨i, j, rfl, g' _ (.int _)⟩
  · rename_i x y
    obtain ⟨v, w, rfl, rv, rw'⟩ := two_of ra
    obtain ⟨i, j, rfl, rfl, _, rfl⟩ := intS_inv e
    cases rv; cases rw'
    exact call_max2 hc pins s σ H _ us Q I r ⟨i, j, rfl, g' _ (.int _)⟩
  · rename_i x
    obtain ⟨v, rfl, rv⟩ := one_of ra
    obtain ⟨ys, h1, rfl⟩ := Option.map_eq_some_iff.mp e
    obtain ⟨p, ws, rfl, s1, t⟩ := itemsL_ok R rv h1
    exact call_list_of pins s σ H _ us Q I r ⟨p, ws, rfl, s1, fun l hl => g ι _ _ (.new hl) (R.new hl) (.lst (.inl ⟨.inl upd_same, R.out hl⟩) (t.ext (.new hl)))⟩
  · rename_i x
    obtain ⟨v, rfl, rv⟩ := one_of ra
    obtain ⟨ys, h1, rfl⟩ := Option.map_eq_some_iff.mp e
    unfold itemsL at h1
    split at h1
    · rename_i zs hd
      cases h1
      obtain ⟨p, ws, rfl, s1, t⟩ := deref_lst R rv hd
      exact call_tuple_of pins s σ H _ us Q I r ⟨p, ws, rfl, .inl ⟨s1, fun l hl => g ι _ _ (.new hl) (R.new hl) (.tup (.inl ⟨.inl upd_same, R.out hl⟩) (t.ext (.new hl)))⟩⟩
    · rename_i zs hd
      cases h1
      obtain ⟨p, ws, rfl, s1, t⟩ := deref_tup R rv hd
      exact call_tuple_of pins s σ H _ us Q I r ⟨p, ws, rfl, .inr ⟨s1.sq, g' _ (.tup s1 t)⟩⟩
    · cases h1
  · rename_i x
    obtain ⟨v, rfl, rv⟩ := one_of ra
    obtain ⟨u, rfl, ru⟩ := vals1 r
    exact rp_ok hg hu I R rv ru e fun z hz => g' _ (by subst hz; exact .str _)
  · cases e

/-! ### methods -/
def rM (K : Fg) (mg : Str → Option Value) (f : AH → AV → List AV → Option (AV × AH)) (E : XK) : V → List V → Hp → VK → Prop := fun x xs H Q => ∃ ι h a as, Rep K mg ι h H ∧ RV K mg ι H a x ∧ RVs K mg ι H as xs ∧ GE K mg (RVr K mg) (pr2 (f h a as)) ι H Q E
theorem rM_of {K : Fg} {mg : Str → Option Value} {f : AH → AV → List AV → Option (AV × AH)} {E : XK} {x : V} {xs : List V} {H : Hp} {Q : VK} (q : rM K mg f E x xs H Q) :
    ∃ ι h a as c h', Rep K mg ι h H ∧ RV K mg ι H a x ∧ RVs K mg ι H as xs ∧ f h a as = some (c, h') ∧ ∀ ι' H' z, Ext ι H ι' H' → Rep K mg ι' h' H' → RV K mg ι' H' c z → Q z H' := by
  obtain ⟨ι, h, a, as, R, r1, ra, g⟩ := q
  cases e : f h a as with
  | none => rw [e] at g; exact g.elim
  | some p => rw [e] at g; exact ⟨ι, h, a, as, p.1, p.2, R, r1, ra, e, g⟩
def bmI : Bm → String
  | .popAt => "list.pop" | .append => "list.append" | .split => "str.split" | .join => "str.join" | .upper => "str.upper"
def bmN : Bm → Str
  | .popAt => "pop" | .append => "append" | .split => "split" | .join => "join" | .upper => "upper"
theorem numL_ok {K : Fg} {mg : Str → Option Value} {ι : Mp} {h : AH} {H : Hp} {a : AV} {x : V} {p : Nat × List AV} (R : Rep K mg ι h H) (ra : RV K mg ι H a x) (e : numL h a = some p) :
    ∃ l ws, x = .ref l ∧ ι.n[p.1]? = some l ∧ h[p.1]? = some (.lst p.2) ∧ H l = some (.lst ws) ∧ RVs K mg ι H p.2 ws := by
  unfold numL at e
  split at e
  · rename_i l
    split at e
    · rename_i xs hx
      cases e
      cases ra with
      | ref hi =>
        obtain ⟨a', ha, vs, h1, t⟩ := R.at hx
        rw [hi] at ha; cases ha
        exact ⟨_, vs, rfl, hi, hx, h1, t⟩
    · cases e
  · cases e
theorem strO_ok {K : Fg} {mg : Str → Option Value} {ι : Mp} {H : Hp} {a : AV} {x : V} {z : Str} (ra : RV K mg ι H a x) (e : strO a = some z) : x = .str z := by
  cases ra <;> first | (cases e; rfl) | cases e
theorem intO_ok {K : Fg} {mg : Str → Option Value} {ι : Mp} {H : Hp} {a : AV} {x : V} {z : Int} (ra : RV K mg ι H a x) (e : intO a = some z) : x = .int z := by
  cases ra <;> first | (cases e; rfl) | cases e
theorem mt_bm (m : Bm) {E : XK} : MtR X (bmI m) (rM X.K X.mg (fun h a as => bmS h m a as) E) := by
  intro pins s σ H x xs v us Q I rx rs hq
  obtain ⟨ι, h, a, as, c, h', R, ra, rs', e, g⟩ := rM_of hq
  unfold bmS at e
  split at e
  · obtain ⟨w, rfl, rv⟩ := one_of rs'
    obtain ⟨i, h1, e⟩ := Option.bind_eq_some_iff.mp e
    obtain ⟨p, h2, e⟩ := Option.bind_eq_some_iff.mp e
    split at e
    · rename_i hb
      obtain ⟨k, h3, e⟩ := Option.bind_eq_some_iff.mp e
      obtain ⟨y, h4, e⟩ := Option.map_eq_some_iff.mp e
      cases e
      have := intO_ok rv h1
      subst this
      obtain ⟨l, ws, rfl, hi, hx, hl, t⟩ := numL_ok R ra h2
      obtain ⟨y', h5, h6⟩ := t.getA h4
      have hw : Ext ι H ι (upd H l (.lst (ws.eraseIdx k))) := .write (List.mem_of_getElem? hi)
      exact mt_popAt pins s σ H _ _ v us Q I rx rs ⟨l, ws, i, k, y', rfl, rfl, hl, hb.1, hb.2, by rw [← t.length]; exact h3, h5, g ι _ _ hw (R.write hi ⟨_, upd_same, (t.eraseIdx k).ext hw⟩) (h6.ext hw)⟩
    · cases e
  · obtain ⟨w, rfl, rv⟩ := one_of rs'
    obtain ⟨p, h2, e⟩ := Option.bind_eq_some_iff.mp e
    split at e
    · rename_i hb
      cases e
      obtain ⟨l, ws, rfl, hi, hx, hl, t⟩ := numL_ok R ra h2
      have hw : Ext ι H ι (upd H l (.lst (ws ++ [w]))) := .write (List.mem_of_getElem? hi)
      exact mt_append pins s σ H _ _ v us Q I rx rs ⟨l, ws, w, rfl, rfl, hl, by rw [← t.length]; exact hb, g ι _ _ hw (R.write hi ⟨_, upd_same, (t.append (.cons rv .nil)).ext hw⟩) .non⟩
    · cases e
  · obtain ⟨w, rfl, rv⟩ := one_of rs'
    obtain ⟨z, h1, e⟩ := Option.bind_eq_some_iff.mp e
    obtain ⟨ys, h2, e⟩ := Option.bind_eq_some_iff.mp e
    obtain ⟨ts, h3, e⟩ := Option.bind_eq_some_iff.mp e
    split at e
    · rename_i hb
      cases e
      have := strO_ok ra h1
      subst this
      obtain ⟨p, ws, rfl, s1, t⟩ := itemsL_ok R rv h2
      rw [strsA_ok t h3] at s1
      exact mt_join pins s σ H _ _ v us Q I rx rs ⟨z, p, ts, rfl, rfl, s1, hb, g ι _ _ .refl R (.str _)⟩
    · cases e
  · cases rs'
    obtain ⟨z, h1, e⟩ := Option.bind_eq_some_iff.mp e
    split at e
    · rename_i hb
      cases e
      have := strO_ok ra h1
      subst this
      exact mt_upper pins s σ H _ _ v us Q I rx rs ⟨z, rfl, rfl, hb, g ι _ _ .refl R (.str _)⟩
    · cases e
  · obtain ⟨w, rfl, rv⟩ := one_of rs'
    obtain ⟨z, h1, e⟩ := Option.bind_eq_some_iff.mp e
    obtain ⟨b, h2, e⟩ := Option.bind_eq_some_iff.mp e
    split at e
    · rename_i hb
      cases e
      have := strO_ok ra h1
      subst this
      have := strO_ok rv h2
      subst this
      refine mt_split pins s σ H _ _ v us Q I rx rs ⟨z, b, rfl, rfl, hb.1, hb.2, fun p hp => ?_⟩
      exact g ι _ _ (.new hp) (R.new hp) (.lst (.inl ⟨.inl upd_same, R.out hp⟩) (RVs.map (fun z => .str z) _))
    · cases e
  · cases e
theorem tyM_ok {K : Fg} {mg : Str → Option Value} {ι : Mp} {h : AH} {H : Hp} {a : AV} {x : V} {m : Bm} (R : Rep K mg ι h H) (ra : RV K mg ι H a x) (e : tyM h m a = true) : tyV K (bmT m) x H := by
  unfold tyM at e
  split at e
  · rename_i l hT
    split at e
    · rename_i xs hx
      cases ra with
      | ref hi =>
        obtain ⟨a', ha, vs, h1, t⟩ := R.at hx
        rw [hi] at ha; cases ha
        exact .inl ⟨hT, vs, .inl (.inl h1)⟩
    · cases e
  · rename_i z hT
    cases ra
    exact hT
  · cases e
theorem bm_facts (m : Bm) : PlainAttrs (bmT m) ∧ Slot (bmT m) (bmN m) (bmI m) ∧ typeOf (.builtin (bmI m)) = pure (.type "method_descriptor") := by
  cases m
  · exact ⟨F.plainAttrs_list, F.slot_list_pop, F.type_list_pop⟩
  · exact ⟨F.plainAttrs_list, F.slot_list_append, F.type_list_append⟩
  · exact ⟨F.plainAttrs_str, F.slot_str_split, F.type_str_split⟩
  · exact ⟨F.plainAttrs_str, F.slot_str_join, F.type_str_join⟩
  · exact ⟨F.plainAttrs_str, F.slot_str_upper, F.type_str_upper⟩
end
end Zk
/-! Part 4: the look (chk): that a text of the model's is a text of the small language; the contexts. -/
namespace Zk
open PySem L2

structure Ck where
  N : List Str
  sc : Scope
  bl : List Str
  fs : List Str
  fnB : Str → Bool
def visB (sc : Scope) (x : Str) : Bool := sc.names.lookup x == some .local || sc.names.lookup x == some .cell || sc.names.lookup x == some .free
def locB (sc : Scope) (x : Str) : Bool := sc.names.lookup x == some .local || sc.names.lookup x == some .cell
def glB (sc : Scope) (x : Str) : Bool := sc.names.lookup x == some .globalImplicit
def okN (x : Str) : Bool := !(x == ("__debug__" : Str)) && !(x == ("__classdict__" : Str))
def noStar : Expr → Bool
  | .Starred .. => false
  | _ => true
def noSlice : Expr → Bool
  | .Slice .. => false
  | _ => true
/-- its truth is that of its value -/
def plainT : Expr → Bool
  | .UnaryOp .Not _ _ | .BoolOp .. | .IfExp .. | .Compare .. => false
  | _ => true
def baseB : Expr → Bool
  | .Call (.Name id _) _ _ _ => !(id == ("super" : Str))
  | .Call (.Attribute ..) _ _ _ => true
  | .Call .. => false
  | _ => true
def cstB : AV → Const → Bool
  | .non, .none => true
  | .bl b, .bool c => b == c
  | .int i, .int j => i == j
  | .str s, .str z => decide (s = z)
  | _, _ => false
def biN : Bi → Str
  | .len => "len" | .all => "all" | .any => "any" | .isinst => "isinstance" | .repr => "repr" | .min2 => "min" | .max2 => "max" | .list => "list" | .tuple => "tuple" | .sorted => "sorted"
def isBop (op : BOp) : Operator → Bool
  | .Add => op == .add | .Sub => op == .sub | .Mult => op == .mul | .FloorDiv => op == .fdiv | .Mod => op == .mod | .Pow => op == .pow
  | _ => false
def isCop (op : COp) : CmpOp → Bool
  | .Eq => op == .eq | .NotEq => op == .ne | .Lt => op == .lt | .LtE => op == .le | .Gt => op == .gt | .GtE => op == .ge | .In => op == .isin | .NotIn => op == .notin | .Is => op == .isN | .IsNot => op == .notN
def ITg.slots : ITg → List Nat
  | .nm i => [i]
  | .tp ts => slotsL ts
where slotsL : List ITg → List Nat
  | [] => []
  | t :: ts => t.slots ++ slotsL ts
mutual
def chkG (C : Ck) : ITg → Expr → Bool
  | .nm i, .Name x _ => C.N[i]? == some x && locB C.sc x && (C.fnB x || C.sc.names.lookup x == some .local)
  | .tp ts, .Tuple es _ _ => chkGs C ts es && ts.length == es.length
  | _, _ => false
def chkGs (C : Ck) : List ITg → List Expr → Bool
  | [], [] => true
  | t :: ts, e :: es => noStar e && chkG C t e && chkGs C ts es
  | _, _ => false
end
/-- the inner context of a comprehension's block -/
def Ck.blk (C : Ck) (scope : Scope) : Ck := ⟨C.N, relS scope C.sc, C.bl, C.fs, fun x => scope.names.lookup x == some .cell⟩
def ownOf (N : List Str) (own : List Nat) : List (Str × Nat) := own.map fun i => (N.getD i "", i)
def Kw (k : Keyword) : Option Str × Expr := (k.arg, k.value)

mutual
def chkE (C : Ck) : IE → Expr → Bool
  | .var i, .Name x _ => C.N[i]? == some x && visB C.sc x && okN x
  | .cst c, .Constant k _ _ => cstB c k
  | .con y, .Name x _ => x == y && glB C.sc x && okN x && !(x == ("__name__" : Str))
  | .bin op a b, .BinOp ea o eb _ => isBop op o && chkE C a ea && chkE C b eb
  | .cmp op a b, .Compare ea [o] [eb] _ => isCop op o && !behindInMarks o eb && chkE C a ea && chkE C b eb
  | .chn o1 o2 a b c, .Compare ea [p1, p2] [eb, ec] _ => isCop o1 p1 && isCop o2 p2 && !behindInMarks p2 ec && chkE C a ea && chkE C b eb && chkE C c ec
  | .land a b, .BoolOp .And (ea :: eb :: es) p => chkE C a ea && chkE C b (match es with | [] => eb | _ => .BoolOp .And (eb :: es) p)
  | .lor a b, .BoolOp .Or (ea :: eb :: es) p => chkE C a ea && chkE C b (match es with | [] => eb | _ => .BoolOp .Or (eb :: es) p)
  | .lnot a, .UnaryOp .Not ea _ => chkE C a ea
  | .neg a, .UnaryOp .USub ea _ => chkE C a ea
  | .ite c a b, .IfExp ec ea eb _ => chkT C c ec && chkE C a ea && chkE C b eb
  | .tup es, .Tuple xs _ _ => chkEs C es xs && decide (xs.length ≤ 1000)
  | .lst _ es, .List xs _ => chkEs C es xs && decide (xs.length ≤ 1000)
  | .dct _ ps, .Dict ks vs _ => chkP C ps ks vs && !ks.isEmpty && decide (ks.length ≤ 15)
  | .idx a b, .Subscript ea eb _ => noSlice eb && chkE C a ea && chkE C b eb
  | .slc a lo hi, .Subscript ea (.Slice el eh none _) _ => chkE C a ea && (match el with | none => lo.isNop | some e => !lo.isNop && chkE C lo e) && (match eh with | none => hi.isNop | some e => !hi.isNop && chkE C hi e)
  | .call f es, .Call (.Name x _) xs [] _ => x == f && glB C.sc x && C.fs.contains x && okN x && chkEs C es xs
  | .calk f es ks vs, .Call (.Name x _) xs kws _ => x == f && glB C.sc x && C.fs.contains x && okN x && !kws.isEmpty && chkEs C es xs && chkEs C vs (kws.map (·.value)) && decide (kws.map (·.arg) = ks.map some)
  | .bi b es, .Call (.Name x _) xs [] _ => x == biN b && glB C.sc x && C.bl.contains x && !xs.isEmpty && chkEs C es xs
  | .bm m o es, .Call (.Attribute eo x ap) xs [] cp => x == bmN m && baseB eo && chkE C o eo && chkEs C es xs && ap.endLine == cp.line && decide (xs.length < 20)
  | .lc _ own tg it c e, .ListComp elt [⟨et, ei, ifs, n⟩] scope _ => decide (n = 0) && blkC C.N C.sc scope (ownOf C.N own) && tg.slots.all own.contains && chkI C it ei && (!it.pair || tg.isTp) && noSet ei && chkG (C.blk scope) tg et && (match ifs with | [] => c.isTt | [i] => !c.isTt && chkT (C.blk scope) c i | _ => false) && chkE (C.blk scope) e elt
  | _, _ => false
def chkEs (C : Ck) : IEs → List Expr → Bool
  | .nil, [] => true
  | .cons e es, x :: xs => noStar x && chkE C e x && chkEs C es xs
  | _, _ => false
def chkP (C : Ck) : IPs → List (Option Expr) → List Expr → Bool
  | .nil, [], [] => true
  | .cons k v ps, some ek :: ks, ev :: vs => chkE C k ek && chkE C v ev && chkP C ps ks vs
  | _, _, _ => false
def chkT (C : Ck) : IT → Expr → Bool
  | .val (.cmp op a b), .Compare ea [o] [eb] _ => isCop op o && !behindInMarks o eb && chkE C a ea && chkE C b eb
  | .val (.chn o1 o2 a b c), .Compare ea [p1, p2] [eb, ec] _ => isCop o1 p1 && isCop o2 p2 && !behindInMarks p2 ec && chkE C a ea && chkE C b eb && chkE C c ec
  | .val a, e => plainT e && chkE C a e
  | .land a b, .BoolOp .And (ea :: eb :: es) p => chkT C a ea && chkT C b (match es with | [] => eb | _ => .BoolOp .And (eb :: es) p)
  | .lor a b, .BoolOp .Or (ea :: eb :: es) p => chkT C a ea && chkT C b (match es with | [] => eb | _ => .BoolOp .Or (eb :: es) p)
  | .lnot a, .UnaryOp .Not ea _ => chkT C a ea
  | _, _ => false
def chkI (C : Ck) : II → Expr → Bool
  | .rng1 a, .Call (.Name x _) [ea] [] _ => x == ("range" : Str) && glB C.sc x && C.bl.contains x && noStar ea && chkE C a ea
  | .rng2 a b, .Call (.Name x _) [ea, eb] [] _ => x == ("range" : Str) && glB C.sc x && C.bl.contains x && noStar ea && noStar eb && chkE C a ea && chkE C b eb
  | .enum a, .Call (.Name x _) [ea] [] _ => x == ("enumerate" : Str) && glB C.sc x && C.bl.contains x && noStar ea && chkE C a ea
  | .zip a b, .Call (.Name x _) [ea, eb] [] _ => x == ("zip" : Str) && glB C.sc x && C.bl.contains x && noStar ea && noStar eb && chkE C a ea && chkE C b eb
  | .val a, e => chkE C a e
  | _, _ => false
end
end Zk
/-! Part 5: expressions keep their word. -/
namespace Zk
open PySem L2

/-- the names' values -/
structure REn (K : Fg) (mg : Str → Option Value) (ι : Mp) (H : Hp) (ρ : En) (σ : St) : Prop where
  len : ρ.length = σ.length
  at_ : ∀ (i : Nat) x, ρ[i]? = some (some x) → ∃ v, σ[i]? = some (some v) ∧ RV K mg ι H x v
section
variable {K : Fg} {mg : Str → Option Value} {ι ι' : Mp} {H H' : Hp} {ρ : En} {σ : St}
theorem REn.ext (r : REn K mg ι H ρ σ) (e : Ext ι H ι' H') : REn K mg ι' H' ρ σ := ⟨r.len, fun i x h => let ⟨v, h1, h2⟩ := r.at_ i x h; ⟨v, h1, h2.ext e⟩⟩
theorem REn.extW (r : REn K mg ι H ρ σ) (e : ExtW ι H ι' H') : REn K mg ι' H' ρ σ := ⟨r.len, fun i x h => let ⟨v, h1, h2⟩ := r.at_ i x h; ⟨v, h1, h2.extW e⟩⟩
theorem REn.set (r : REn K mg ι H ρ σ) {i : Nat} {x : AV} {v : V} (h : RV K mg ι H x v) : REn K mg ι H (ρ.set i (some x)) (σ.set i (some v)) := by
  refine ⟨by simp [r.len], fun j y hj => ?_⟩
  by_cases e : i = j
  · subst e
    by_cases hl : i < ρ.length
    · rw [List.getElem?_set_self hl] at hj
      cases hj
      exact ⟨v, by rw [List.getElem?_set_self (by rw [← r.len]; exact hl)], h⟩
    · rw [List.getElem?_eq_none (by simpa using hl)] at hj; cases hj
  · rw [List.getElem?_set_ne e] at hj ⊢
    exact r.at_ j y hj
theorem REn.wipe (r : REn K mg ι H ρ σ) : ∀ vs : List Nat, REn K mg ι H (wipeA ρ vs) (L2.wipe σ vs)
  | [] => r
  | v :: vs => by
    have ih := REn.wipe r vs
    refine ⟨by simp [wipeA, L2.wipe, ih.len], fun j y hj => ?_⟩
    by_cases e : v = j
    · subst e
      unfold wipeA at hj
      by_cases hl : v < (wipeA ρ vs).length
      · rw [List.getElem?_set_self hl] at hj; cases hj
      · rw [List.getElem?_eq_none (by simpa using hl)] at hj; cases hj
    · unfold wipeA at hj
      unfold L2.wipe
      rw [List.getElem?_set_ne e] at hj ⊢
      exact ih.at_ j y hj
end

/-- a name of the module, of the built-ins, as a value -/
def ConOk (K : Fg) (mg : Str → Option Value) (x : Str) (v : AV) : Prop :=
  ∃ u w, (mg x = some u ∨ (mg x = none ∧ bootBuiltins x = some u)) ∧ RelV w u ∧ ∀ ι H, RV K mg ι H v w
/-- the defs of the program, called at A -/
structure Fns (P : Program) (w : World) (K : Fg) (mg : Str → Option Value) (base : Heap) (A : Around) (T : Tb) : Prop where
  run : ∀ f vs ks kvs as h a, mg f = some (.ref a) → T.arr f vs ks kvs = some as →
    ∀ outer s H us xs ws zs ι Q E, Env0 P w K mg base A outer s H → Vals xs us → Vals zs ws → Rep K mg ι h H → RVs K mg ι H vs xs → RVs K mg ι H kvs zs → GE K mg (RVr K mg) (T.call f as h) ι H Q E →
      codeAny (model P w) A (.call (.ref a) ⟨us, ks.zip ws⟩) (CR (L2.CX P w) outer P w H s Q E) s

structure Cd (X : Cx) (T : Tb) (C : Ck) (W : WX) : Prop where
  hN : X.N = C.N
  nd : X.N.Nodup
  hsc : X.env.scope = C.sc
  calm : X.calm = true
  un : X.A.units + 200 < cLine
  gd : X.A.guards = some []
  tk : Takes X W
  con : ∀ x v, T.con x = some v → ConOk X.K X.mg x v
  bl : ∀ x, C.bl.contains x = true → X.mg x = none
  fn : ∀ x, C.fnB x = true → X.fn x = true
  fs : ∀ f, C.fs.contains f = true → ∃ a, X.mg f = some (.ref a) ∧ PySem.W.keepIn X.K (.ref a) = true
  fns : Fns X.prog X.w X.K X.mg X.base X.A T
  iso : IsiOk X.K X.mg T

/-! ### the readings -/
def tG (K : Fg) (mg : Str → Option Value) (t : ITg) : TG := fun v σ H Q => ∃ ι ρ ρ' h a, Rep K mg ι h H ∧ REn K mg ι H ρ σ ∧ RV K mg ι H a v ∧ asgT t a ρ = some ρ' ∧
  ∀ σ', REn K mg ι H ρ' σ' → σ'.length = σ.length → (∀ i, i ∉ t.slots → σ'[i]? = σ[i]?) → Q σ' H
def tGs (K : Fg) (mg : Str → Option Value) (ts : List ITg) : TGs := fun vs σ H Q => ∃ ι ρ ρ' h as, Rep K mg ι h H ∧ REn K mg ι H ρ σ ∧ RVs K mg ι H as vs ∧ asgTs ts as ρ = some ρ' ∧
  ∀ σ', REn K mg ι H ρ' σ' → σ'.length = σ.length → (∀ i, i ∉ ITg.slots.slotsL ts → σ'[i]? = σ[i]?) → Q σ' H
def tE (K : Fg) (mg : Str → Option Value) (T : Tb) (W : WX) (e : IE) : TE := fun σ H Q => ∃ ι ρ h, Rep K mg ι h H ∧ REn K mg ι H ρ σ ∧ GE K mg (RVr K mg) (evE T e ρ h) ι H Q fun c d H' => W c d σ H'
def tEs (K : Fg) (mg : Str → Option Value) (T : Tb) (W : WX) (es : IEs) : TA := fun σ H Q => ∃ ι ρ h, Rep K mg ι h H ∧ REn K mg ι H ρ σ ∧ GE K mg (RVsr K mg) (evEs T es ρ h) ι H Q fun c d H' => W c d σ H'
def tT (K : Fg) (mg : Str → Option Value) (T : Tb) (W : WX) (e : IT) : TT := fun σ H Q => ∃ ι ρ h, Rep K mg ι h H ∧ REn K mg ι H ρ σ ∧ GE K mg REq (evT T e ρ h) ι H Q fun c d H' => W c d σ H'
/-- what is walked gives what it is to give, as long as it stands -/
def WlkOk (K : Fg) (mg : Str → Option Value) (ι : Mp) (H : Hp) (t : AIt) (J : It) : Prop := ∃ G Y, Walk J t.len G Y ∧ (∀ ι' h' H', ExtW ι H ι' H' → Rep K mg ι' h' H' → t.fin h' = true → G H') ∧
  ∀ ι1 h1 i H1 x H2, ExtW ι H ι1 H1 → Rep K mg ι1 h1 H1 → t.fin h1 = true → i < t.len → Y i H1 x H2 → ∃ a, t.get h1 i = some a ∧ Ext ι1 H1 ι1 H2 ∧ Rep K mg ι1 h1 H2 ∧ RV K mg ι1 H2 a x
def tI (K : Fg) (mg : Str → Option Value) (T : Tb) (W : WX) (e : II) : TI := fun σ H R => ∃ ι ρ h, Rep K mg ι h H ∧ REn K mg ι H ρ σ ∧ GE K mg (WlkOk K mg) (evI T e ρ h) ι H R fun c d H' => W c d σ H'

section
variable {X : Cx} {e : Expr}
theorem PE.imp {t t' : TE} (h : PE X e t) (i : ∀ σ H Q, t' σ H Q → t σ H Q) : PE X e t' := ⟨fun pins s σ H Q I q => h.run pins s σ H Q I (i σ H Q q)⟩
theorem PT.imp {t t' : TT} (h : PT X e t) (i : ∀ σ H Q, t' σ H Q → t σ H Q) : PT X e t' := ⟨fun pins s σ H Q I q => h.run pins s σ H Q I (i σ H Q q)⟩
theorem PA.imp {es : List Expr} {t t' : TA} (h : PA X es t) (i : ∀ σ H Q, t' σ H Q → t σ H Q) : PA X es t' := ⟨fun pos pins s σ H Q I q => h.run pos pins s σ H Q I (i σ H Q q)⟩
theorem PG.imp {t t' : TG} (h : PG X e t) (i : ∀ v σ H Q, t' v σ H Q → t v σ H Q) : PG X e t' := ⟨fun pins s σ H v u Q I r q => h.run pins s σ H v u Q I r (i v σ H Q q)⟩
theorem PGs.imp {es : List Expr} {t t' : TGs} (h : PGs X es t) (i : ∀ v σ H Q, t' v σ H Q → t v σ H Q) : PGs X es t' := ⟨fun pins s σ H v u Q I r q => h.run pins s σ H v u Q I r (i v σ H Q q)⟩
end

section
variable {X : Cx} {T : Tb} {C : Ck} {W : WX}
theorem Cd.look (c : Cd X T C W) {i : Nat} {x : Str} (h : (C.N[i]? == some x) = true) : X.N[i]? = some x := by rw [c.hN]; exact beq_iff_eq.mp h
theorem Cd.vis (c : Cd X T C W) {x : Str} (h : visB C.sc x = true) : Vis X.env.scope x := by
  rw [c.hsc]
  simp only [visB, Bool.or_eq_true, beq_iff_eq] at h
  rcases h with (h | h) | h
  · exact .inl h
  · exact .inr (.inl h)
  · exact .inr (.inr h)
theorem Cd.loc (c : Cd X T C W) {x : Str} (h : locB C.sc x = true) : Loc X.env.scope x := by
  rw [c.hsc]
  simp only [locB, Bool.or_eq_true, beq_iff_eq] at h
  exact h
theorem Cd.gl (c : Cd X T C W) {x : Str} (h : glB C.sc x = true) : Gl X x := by
  show X.env.scope.names.lookup x = _
  rw [c.hsc]
  exact beq_iff_eq.mp h
theorem okN_of {x : Str} (h : okN x = true) : (x == ("__debug__" : Str)) = false ∧ (x == ("__classdict__" : Str)) = false := by
  simp only [okN, Bool.and_eq_true, Bool.not_eq_true'] at h
  exact h
theorem star_of {e : Expr} {es : List Expr} {env : Env} (h : noStar e = true) : starEach (e :: es) env = (false, eval e env) :: starEach es env := by
  cases e <;> first | rfl | exact absurd h Bool.false_ne_true
theorem assign_of {e : Expr} {es : List Expr} {env : Env} (h : noStar e = true) : assignEach (e :: es) env = (false, assign e env) :: assignEach es env := by
  cases e <;> first | rfl | exact absurd h Bool.false_ne_true
/-! targets -/
theorem asg_nm {i : Nat} {a : AV} {ρ ρ' : En} (h : asgT (.nm i) a ρ = some ρ') : ρ' = ρ.set i (some a) := by
  have h : (if i < ρ.length then some (ρ.set i (some a)) else none) = some ρ' := by
    rw [← h]; simp only [asgT]
  split at h
  · exact (Option.some.inj h).symm
  · cases h
theorem asg_tp {ts : List ITg} {a : AV} {ρ ρ' : En} (h : asgT (.tp ts) a ρ = some ρ') : ∃ xs, a = .tup xs ∧ asgTs ts xs ρ = some ρ' := by
  cases a <;> first
    | exact ⟨_, rfl, h⟩
    | (simp only [asgT] at h; cases h)
theorem asg_nil {as : List AV} {ρ ρ' : En} (h : asgTs [] as ρ = some ρ') : as = [] ∧ ρ' = ρ := by
  cases as with
  | nil => simp only [asgTs, Option.some.injEq] at h; exact ⟨rfl, h.symm⟩
  | cons _ _ => simp only [asgTs] at h; cases h
theorem asg_cons {t : ITg} {ts : List ITg} {as : List AV} {ρ ρ' : En} (h : asgTs (t :: ts) as ρ = some ρ') : ∃ x xs ρ1, as = x :: xs ∧ asgT t x ρ = some ρ1 ∧ asgTs ts xs ρ1 = some ρ' := by
  cases as with
  | nil => simp only [asgTs] at h; cases h
  | cons x xs =>
    simp only [asgTs] at h
    obtain ⟨ρ1, h1, h2⟩ := Option.bind_eq_some_iff.mp h
    exact ⟨x, xs, ρ1, rfl, h1, h2⟩
theorem asg_len : ∀ (ts : List ITg) (as : List AV) (ρ ρ' : En), asgTs ts as ρ = some ρ' → ts.length = as.length
  | [], as, _, _, h => by rw [(asg_nil h).1]; rfl
  | t :: ts, as, _, _, h => by
    obtain ⟨x, xs, ρ1, rfl, h1, h2⟩ := asg_cons h
    rw [List.length_cons, List.length_cons, asg_len ts xs _ _ h2]
theorem chkG_nm {i : Nat} {e : Expr} (h : chkG C (.nm i) e = true) : ∃ x p, e = .Name x p ∧ (C.N[i]? == some x) = true ∧ locB C.sc x = true ∧ (C.fnB x = true ∨ (C.sc.names.lookup x == some .local) = true) := by
  cases e <;> first
    | (simp only [chkG, Bool.and_eq_true, Bool.or_eq_true] at h; exact ⟨_, _, rfl, h.1.1, h.1.2, h.2⟩)
    | (simp only [chkG] at h; cases h)
theorem chkG_tp {ts : List ITg} {e : Expr} (h : chkG C (.tp ts) e = true) : ∃ es k p, e = .Tuple es k p ∧ chkGs C ts es = true ∧ ts.length = es.length := by
  cases e <;> first
    | (simp only [chkG, Bool.and_eq_true, beq_iff_eq] at h; exact ⟨_, _, _, rfl, h.1, h.2⟩)
    | (simp only [chkG] at h; cases h)
mutual
theorem sG (c : Cd X T C W) : ∀ (t : ITg) (e : Expr), chkG C t e = true → PG X e (tG X.K X.mg t)
  | .nm i, e, h => by
    obtain ⟨x, p, rfl, h1, h2, h3⟩ := chkG_nm h
    refine PG.imp (pg_name (i := i) c.nd (c.look h1) (c.loc h2) (h3.imp (c.fn x) fun z => by rw [c.hsc]; exact beq_iff_eq.mp z)) ?_
    rintro v σ H Q ⟨ι, ρ, ρ', h, a, R, E, ra, e, q⟩
    have := asg_nm e
    subst this
    refine q _ (E.set ra) (by simp) fun j hj => ?_
    rw [List.getElem?_set_ne (fun z => hj (by simp [ITg.slots, z]))]
  | .tp ts, e, h => by
    obtain ⟨es, k, p, rfl, h1, h2⟩ := chkG_tp h
    have S := sGs c ts es h1
    refine PG.imp (pg_tup (n := es.length) c.calm S.1 S.2.1 S.2.2) ?_
    rintro v σ H Q ⟨ι, ρ, ρ', h, a, R, E, ra, e, q⟩
    obtain ⟨xs, rfl, e⟩ := asg_tp e
    cases ra with
    | tup f t =>
      refine ⟨_, _, rfl, f.sq, ?_, ι, ρ, ρ', h, xs, R, E, t, e, q⟩
      rw [← t.length, ← h2]
      exact (asg_len ts xs ρ _ e).symm
theorem sGs (c : Cd X T C W) : ∀ (ts : List ITg) (es : List Expr), chkGs C ts es = true → PGs X es (tGs X.K X.mg ts) ∧ (assignEach es X.env).length = es.length ∧ (assignEach es X.env).findIdx? (·.1) = none
  | [], [], h => by
    refine ⟨PGs.imp pgs_nil ?_, rfl, rfl⟩
    rintro vs σ H Q ⟨ι, ρ, ρ', h, as, R, E, ra, e, q⟩
    obtain ⟨rfl, rfl⟩ := asg_nil e
    cases ra
    exact ⟨rfl, q σ E rfl fun _ _ => rfl⟩
  | [], _ :: _, h => by simp only [chkGs] at h; cases h
  | _ :: _, [], h => by simp only [chkGs] at h; cases h
  | t :: ts, e :: es, h => by
    simp only [chkGs, Bool.and_eq_true] at h
    obtain ⟨⟨h1, h2⟩, h3⟩ := h
    have A := sG c t e h2
    obtain ⟨B1, B2, B3⟩ := sGs c ts es h3
    have ea := assign_of (es := es) (env := X.env) h1
    refine ⟨PGs.imp (pgs_cons A B1 (by rw [ea]; rfl)) ?_, by rw [ea]; simp [B2], by rw [ea, List.findIdx?_cons]; simpa using B3⟩
    rintro vs σ H Q ⟨ι, ρ, ρ', h, as, R, E, ra, e1, q⟩
    obtain ⟨x, xs, ρ1, rfl, e2, e3⟩ := asg_cons e1
    cases ra with
    | cons r rs =>
      refine ⟨_, _, rfl, ι, ρ, ρ1, h, x, R, E, r, e2, fun σ1 E1 l1 k1 => ⟨ι, ρ1, ρ', h, xs, R, E1, rs, e3, fun σ2 E2 l2 k2 => q σ2 E2 (l2.trans l1) fun i hi => ?_⟩⟩
      have hi' : i ∉ t.slots ∧ i ∉ ITg.slots.slotsL ts := by
        simp only [ITg.slots.slotsL, List.mem_append, not_or] at hi
        exact hi
      rw [k2 i hi'.2, k1 i hi'.1]
end
end
end Zk
/-! Part 6: expressions keep their word: what the look tells of each form. -/
namespace Zk
open PySem L2
section
variable {C : Ck} {e : Expr}
theorem chk_var {i : Nat} (h : chkE C (.var i) e = true) : ∃ x p, e = .Name x p ∧ (C.N[i]? == some x) = true ∧ visB C.sc x = true ∧ okN x = true := by
  cases e <;> first
    | (simp only [chkE, Bool.and_eq_true] at h; exact ⟨_, _, rfl, h.1.1, h.1.2, h.2⟩)
    | (simp only [chkE] at h; cases h)
theorem chk_cst {c : AV} (h : chkE C (.cst c) e = true) : ∃ k j p, e = .Constant k j p ∧ cstB c k = true := by
  cases e <;> first
    | (simp only [chkE] at h; exact ⟨_, _, _, rfl, h⟩)
    | (simp only [chkE] at h; cases h)
theorem chk_con {y : Str} (h : chkE C (.con y) e = true) : ∃ p, e = .Name y p ∧ glB C.sc y = true ∧ okN y = true ∧ ¬ y = "__name__" := by
  cases e <;> first
    | (simp only [chkE, Bool.and_eq_true, beq_iff_eq, Bool.not_eq_true', beq_eq_false_iff_ne] at h
       obtain ⟨⟨⟨h1, h2⟩, h3⟩, h4⟩ := h
       subst h1
       exact ⟨_, rfl, h2, h3, h4⟩)
    | (simp only [chkE] at h; cases h)
theorem chk_bin {op : BOp} {a b : IE} (h : chkE C (.bin op a b) e = true) : ∃ ea o eb p, e = .BinOp ea o eb p ∧ isBop op o = true ∧ chkE C a ea = true ∧ chkE C b eb = true := by
  cases e <;> first
    | (simp only [chkE, Bool.and_eq_true] at h; exact ⟨_, _, _, _, rfl, h.1.1, h.1.2, h.2⟩)
    | (simp only [chkE] at h; cases h)
theorem chk_cmp {op : COp} {a b : IE} (h : chkE C (.cmp op a b) e = true) : ∃ ea o eb p, e = .Compare ea [o] [eb] p ∧ isCop op o = true ∧ behindInMarks o eb = false ∧ chkE C a ea = true ∧ chkE C b eb = true := by
  cases e with
  | Compare ea os es p =>
    match os, es, h with
    | [o], [eb], h =>
      simp only [chkE, Bool.and_eq_true, Bool.not_eq_true'] at h
      exact ⟨_, _, _, _, rfl, h.1.1.1, h.1.1.2, h.1.2, h.2⟩
    | [], _, h => simp only [chkE] at h; cases h
    | [_], [], h => simp only [chkE] at h; cases h
    | [_], _ :: _ :: _, h => simp only [chkE] at h; cases h
    | _ :: _ :: _, _, h => simp only [chkE] at h; cases h
  | _ => simp only [chkE] at h; cases h
theorem chk_chn {o1 o2 : COp} {a b d : IE} (h : chkE C (.chn o1 o2 a b d) e = true) : ∃ ea p1 p2 eb ec p, e = .Compare ea [p1, p2] [eb, ec] p ∧ isCop o1 p1 = true ∧ isCop o2 p2 = true ∧ behindInMarks p2 ec = false ∧ chkE C a ea = true ∧ chkE C b eb = true ∧ chkE C d ec = true := by
  cases e with
  | Compare ea os es p =>
    match os, es, h with
    | [p1, p2], [eb, ec], h =>
      simp only [chkE, Bool.and_eq_true, Bool.not_eq_true'] at h
      exact ⟨_, _, _, _, _, _, rfl, h.1.1.1.1.1, h.1.1.1.1.2, h.1.1.1.2, h.1.1.2, h.1.2, h.2⟩
    | [], _, h => simp only [chkE] at h; cases h
    | [_], _, h => simp only [chkE] at h; cases h
    | [_, _], [], h => simp only [chkE] at h; cases h
    | [_, _], [_], h => simp only [chkE] at h; cases h
    | [_, _], _ :: _ :: _ :: _, h => simp only [chkE] at h; cases h
    | _ :: _ :: _ :: _, _, h => simp only [chkE] at h; cases h
  | _ => simp only [chkE] at h; cases h
/-- the rest of an and, an or -/
def restB (op : BoolOp) (e : Expr) (es : List Expr) (p : Pos) : Expr := match es with
  | [] => e
  | _ => .BoolOp op (e :: es) p
theorem chk_land {a b : IE} (h : chkE C (.land a b) e = true) : ∃ ea eb es p, e = .BoolOp .And (ea :: eb :: es) p ∧ chkE C a ea = true ∧ chkE C b (restB .And eb es p) = true := by
  cases e with
  | BoolOp op es p =>
    match op, es, h with
    | .And, ea :: eb :: es, h =>
      simp only [chkE, Bool.and_eq_true] at h
      exact ⟨_, _, _, _, rfl, h.1, by cases es <;> exact h.2⟩
    | .And, [], h => simp only [chkE] at h; cases h
    | .And, [_], h => simp only [chkE] at h; cases h
    | .Or, _, h => simp only [chkE] at h; cases h
  | _ => simp only [chkE] at h; cases h
theorem chk_lor {a b : IE} (h : chkE C (.lor a b) e = true) : ∃ ea eb es p, e = .BoolOp .Or (ea :: eb :: es) p ∧ chkE C a ea = true ∧ chkE C b (restB .Or eb es p) = true := by
  cases e with
  | BoolOp op es p =>
    match op, es, h with
    | .Or, ea :: eb :: es, h =>
      simp only [chkE, Bool.and_eq_true] at h
      exact ⟨_, _, _, _, rfl, h.1, by cases es <;> exact h.2⟩
    | .Or, [], h => simp only [chkE] at h; cases h
    | .Or, [_], h => simp only [chkE] at h; cases h
    | .And, _, h => simp only [chkE] at h; cases h
  | _ => simp only [chkE] at h; cases h
theorem chk_lnot {a : IE} (h : chkE C (.lnot a) e = true) : ∃ ea p, e = .UnaryOp .Not ea p ∧ chkE C a ea = true := by
  cases e with
  | UnaryOp op ea p => cases op <;> first
    | (simp only [chkE] at h; exact ⟨_, _, rfl, h⟩)
    | (simp only [chkE] at h; cases h)
  | _ => simp only [chkE] at h; cases h
theorem chk_neg {a : IE} (h : chkE C (.neg a) e = true) : ∃ ea p, e = .UnaryOp .USub ea p ∧ chkE C a ea = true := by
  cases e with
  | UnaryOp op ea p => cases op <;> first
    | (simp only [chkE] at h; exact ⟨_, _, rfl, h⟩)
    | (simp only [chkE] at h; cases h)
  | _ => simp only [chkE] at h; cases h
theorem chk_ite {c : IT} {a b : IE} (h : chkE C (.ite c a b) e = true) : ∃ ec ea eb p, e = .IfExp ec ea eb p ∧ chkT C c ec = true ∧ chkE C a ea = true ∧ chkE C b eb = true := by
  cases e <;> first
    | (simp only [chkE, Bool.and_eq_true] at h; exact ⟨_, _, _, _, rfl, h.1.1, h.1.2, h.2⟩)
    | (simp only [chkE] at h; cases h)
theorem chk_tup {es : IEs} (h : chkE C (.tup es) e = true) : ∃ xs k p, e = .Tuple xs k p ∧ chkEs C es xs = true ∧ xs.length ≤ 1000 := by
  cases e <;> first
    | (simp only [chkE, Bool.and_eq_true, decide_eq_true_eq] at h; exact ⟨_, _, _, rfl, h.1, h.2⟩)
    | (simp only [chkE] at h; cases h)
theorem chk_lst {m : Bool} {es : IEs} (h : chkE C (.lst m es) e = true) : ∃ xs p, e = .List xs p ∧ chkEs C es xs = true ∧ xs.length ≤ 1000 := by
  cases e <;> first
    | (simp only [chkE, Bool.and_eq_true, decide_eq_true_eq] at h; exact ⟨_, _, rfl, h.1, h.2⟩)
    | (simp only [chkE] at h; cases h)
theorem chk_dct {m : Bool} {ps : IPs} (h : chkE C (.dct m ps) e = true) : ∃ ks vs p, e = .Dict ks vs p ∧ chkP C ps ks vs = true ∧ ks.isEmpty = false ∧ ks.length ≤ 15 := by
  cases e <;> first
    | (simp only [chkE, Bool.and_eq_true, Bool.not_eq_true', decide_eq_true_eq] at h; exact ⟨_, _, _, rfl, h.1.1, h.1.2, h.2⟩)
    | (simp only [chkE] at h; cases h)
theorem chk_idx {a b : IE} (h : chkE C (.idx a b) e = true) : ∃ ea eb p, e = .Subscript ea eb p ∧ noSlice eb = true ∧ chkE C a ea = true ∧ chkE C b eb = true := by
  cases e <;> first
    | (simp only [chkE, Bool.and_eq_true] at h; exact ⟨_, _, _, rfl, h.1.1, h.1.2, h.2⟩)
    | (simp only [chkE] at h; cases h)
def partB (C : Ck) (i : IE) (e : Option Expr) : Bool := match e with
  | none => i.isNop
  | some e => !i.isNop && chkE C i e
theorem chk_slc {a lo hi : IE} (h : chkE C (.slc a lo hi) e = true) : ∃ ea el eh p p2, e = .Subscript ea (.Slice el eh none p2) p ∧ chkE C a ea = true ∧ partB C lo el = true ∧ partB C hi eh = true := by
  cases e with
  | Subscript ea s p => cases s with
    | Slice el eh st p2 =>
      cases st with
      | none =>
        simp only [chkE, Bool.and_eq_true] at h
        refine ⟨_, _, _, _, _, rfl, h.1.1, ?_, ?_⟩
        · cases el <;> exact h.1.2
        · cases eh <;> exact h.2
      | some _ => simp only [chkE] at h; cases h
    | _ => simp only [chkE] at h; cases h
  | _ => simp only [chkE] at h; cases h
theorem chk_call {f : Str} {es : IEs} (h : chkE C (.call f es) e = true) : ∃ p xs q, e = .Call (.Name f p) xs [] q ∧ glB C.sc f = true ∧ C.fs.contains f = true ∧ okN f = true ∧ chkEs C es xs = true := by
  cases e with
  | Call g xs ks q => cases g with
    | Name x p => cases ks with
      | nil =>
        simp only [chkE, Bool.and_eq_true, beq_iff_eq, Bool.not_eq_true'] at h
        obtain ⟨⟨⟨⟨h1, h2⟩, h3⟩, h4⟩, h6⟩ := h
        subst h1
        exact ⟨_, _, _, rfl, h2, h3, h4, h6⟩
      | cons _ _ => simp only [chkE] at h; cases h
    | _ => simp only [chkE] at h; cases h
  | _ => simp only [chkE] at h; cases h
theorem chk_calk {f : Str} {es vs : IEs} {ks : List Str} (h : chkE C (.calk f es ks vs) e = true) : ∃ p xs kws q, e = .Call (.Name f p) xs kws q ∧ glB C.sc f = true ∧ C.fs.contains f = true ∧ okN f = true ∧ kws.isEmpty = false ∧ chkEs C es xs = true ∧ chkEs C vs (kws.map (·.value)) = true ∧ kws.map (·.arg) = ks.map some := by
  cases e with
  | Call g xs kws q => cases g with
    | Name x p =>
      simp only [chkE, Bool.and_eq_true, beq_iff_eq, Bool.not_eq_true', decide_eq_true_eq] at h
      obtain ⟨⟨⟨⟨⟨⟨⟨h1, h2⟩, h3⟩, h4⟩, h5⟩, h6⟩, h7⟩, h8⟩ := h
      subst h1
      exact ⟨_, _, _, _, rfl, h2, h3, h4, h5, h6, h7, h8⟩
    | _ => simp only [chkE] at h; cases h
  | _ => simp only [chkE] at h; cases h
theorem chk_bi {b : Bi} {es : IEs} (h : chkE C (.bi b es) e = true) : ∃ p xs q, e = .Call (.Name (biN b) p) xs [] q ∧ glB C.sc (biN b) = true ∧ C.bl.contains (biN b) = true ∧ xs.isEmpty = false ∧ chkEs C es xs = true := by
  cases e with
  | Call g xs ks q => cases g with
    | Name x p => cases ks with
      | nil =>
        simp only [chkE, Bool.and_eq_true, beq_iff_eq, Bool.not_eq_true'] at h
        obtain ⟨⟨⟨⟨h1, h2⟩, h3⟩, h4⟩, h5⟩ := h
        subst h1
        exact ⟨_, _, _, rfl, h2, h3, h4, h5⟩
      | cons _ _ => simp only [chkE] at h; cases h
    | _ => simp only [chkE] at h; cases h
  | _ => simp only [chkE] at h; cases h
theorem chk_bm {m : Bm} {o : IE} {es : IEs} (h : chkE C (.bm m o es) e = true) : ∃ eo ap xs cp, e = .Call (.Attribute eo (bmN m) ap) xs [] cp ∧ baseB eo = true ∧ chkE C o eo = true ∧ chkEs C es xs = true ∧ (ap.endLine == cp.line) = true ∧ xs.length < 20 := by
  cases e with
  | Call g xs ks q => cases g with
    | Attribute eo x p => cases ks with
      | nil =>
        simp only [chkE, Bool.and_eq_true, beq_iff_eq, decide_eq_true_eq] at h
        obtain ⟨⟨⟨⟨⟨h1, h2⟩, h3⟩, h4⟩, h5⟩, h6⟩ := h
        subst h1
        exact ⟨_, _, _, _, rfl, h2, h3, h4, beq_iff_eq.mpr h5, h6⟩
      | cons _ _ => simp only [chkE] at h; cases h
    | _ => simp only [chkE] at h; cases h
  | _ => simp only [chkE] at h; cases h
def ifsB (C : Ck) (c : IT) (ifs : List Expr) : Bool := match ifs with
  | [] => c.isTt
  | [i] => !c.isTt && chkT C c i
  | _ => false
theorem chk_lc {m : Bool} {own : List Nat} {tg : ITg} {it : II} {c : IT} {a : IE} (h : chkE C (.lc m own tg it c a) e = true) : ∃ elt et ei ifs scope p, e = .ListComp elt [⟨et, ei, ifs, 0⟩] scope p ∧ blkC C.N C.sc scope (ownOf C.N own) = true ∧ tg.slots.all own.contains = true ∧
    chkI C it ei = true ∧ (it.pair = true → tg.isTp = true) ∧ noSet ei = true ∧ chkG (C.blk scope) tg et = true ∧ ifsB (C.blk scope) c ifs = true ∧ chkE (C.blk scope) a elt = true := by
  cases e with
  | ListComp elt gs scope p =>
    match gs, h with
    | [⟨et, ei, ifs, n⟩], h =>
      simp only [chkE, Bool.and_eq_true, decide_eq_true_eq] at h
      obtain ⟨⟨⟨⟨⟨⟨⟨⟨h0, h1⟩, h2⟩, h3⟩, h8⟩, h4⟩, h5⟩, h6⟩, h7⟩ := h
      subst h0
      refine ⟨_, _, _, _, _, _, rfl, h1, h2, h3, fun z => by rw [z] at h8; exact h8, h4, h5, ?_, h7⟩
      match ifs, h6 with
      | [], h6 => exact h6
      | [_], h6 => exact h6
      | _ :: _ :: _, h6 => exact h6
    | [], h => simp only [chkE] at h; cases h
    | _ :: _ :: _, h => simp only [chkE] at h; cases h
  | _ => simp only [chkE] at h; cases h
end
end Zk
/-! Part 7: expressions keep their word, form by form. -/
namespace Zk
open PySem L2
theorem bop_of {op : BOp} {o : Operator} (h : isBop op o = true) : o = bopO op := by
  cases o <;> cases op <;> first | rfl | cases h
theorem cop_of {op : COp} {o : CmpOp} (h : isCop op o = true) : o = copO op := by
  cases o <;> cases op <;> first | rfl | cases h
section
variable {X : Cx} {T : Tb} {C : Ck} {W : WX}
theorem e_var (c : Cd X T C W) {i : Nat} {e : Expr} (h : chkE C (.var i) e = true) : PE X e (tE X.K X.mg T W (.var i)) := by
  obtain ⟨x, p, rfl, h1, h2, h3⟩ := chk_var h
  refine PE.imp (pe_var (c.look h1) (c.vis h2) (okN_of h3).1 (okN_of h3).2) ?_
  rintro σ H Q ⟨ι, ρ, h, R, E, g⟩
  simp only [evE] at g
  split at g
  · rename_i v hv
    obtain ⟨w, h4, h5⟩ := E.at_ i v hv
    exact ⟨w, h4, g.here R h5⟩
  · exact g.elim
theorem e_cst (c : Cd X T C W) {v : AV} {e : Expr} (h : chkE C (.cst v) e = true) : PE X e (tE X.K X.mg T W (.cst v)) := by
  obtain ⟨k, j, p, rfl, h1⟩ := chk_cst h
  cases v <;> cases k <;> first
    | exact absurd h1 Bool.false_ne_true
    | (refine PE.imp pe_non ?_
       rintro σ H Q ⟨ι, ρ, h, R, E, g⟩
       exact g ι H _ .refl R .non)
    | (simp only [cstB, beq_iff_eq, decide_eq_true_eq] at h1
       subst h1
       first
         | (refine PE.imp pe_bl ?_
            rintro σ H Q ⟨ι, ρ, h, R, E, g⟩
            exact g ι H _ .refl R (.bl _))
         | (refine PE.imp pe_int ?_
            rintro σ H Q ⟨ι, ρ, h, R, E, g⟩
            exact g ι H _ .refl R (.int _))
         | (refine PE.imp pe_str ?_
            rintro σ H Q ⟨ι, ρ, h, R, E, g⟩
            exact g ι H _ .refl R (.str _)))
theorem e_con (c : Cd X T C W) {y : Str} {e : Expr} (h : chkE C (.con y) e = true) : PE X e (tE X.K X.mg T W (.con y)) := by
  obtain ⟨p, rfl, h1, h2, h3⟩ := chk_con h
  cases hv : T.con y with
  | none =>
    refine ⟨fun pins s σ H Q I q => ?_⟩
    obtain ⟨ι, ρ, h, R, E, g⟩ := q
    simp only [evE, hv] at g
    exact g.elim
  | some v =>
    obtain ⟨u, w, hu, r, rv⟩ := c.con y v hv
    have k : ∀ σ H Q, tE X.K X.mg T W (.con y) σ H Q → tC w σ H Q := by
      rintro σ H Q ⟨ι, ρ, h, R, E, g⟩
      simp only [evE, hv] at g
      exact g ι H _ .refl R (rv ι H)
    rcases hu with hu | ⟨hm, hb⟩
    · exact PE.imp (pe_glob (c.gl h1) hu r (okN_of h2).1) k
    · exact PE.imp (pe_bltn (c.gl h1) hm hb r h3 (okN_of h2).1) k
theorem e_bin (c : Cd X T C W) {op : BOp} {a b : IE} {ea eb : Expr} {p : Pos} (ha : PE X ea (tE X.K X.mg T W a)) (hb : PE X eb (tE X.K X.mg T W b)) : PE X (.BinOp ea (bopO op) eb p) (tE X.K X.mg T W (.bin op a b)) := by
  refine ⟨fun pins s σ H Q I q => ?_⟩
  refine (pe_op (op_bin op (E := fun k d H' => W k d σ H')) ha hb).run pins s σ H Q I ?_
  obtain ⟨ι, ρ, h, R, E, g⟩ := q
  simp only [evE] at g
  exact ⟨ι, ρ, h, R, E, g.bind fun x h1 ι1 H1 v _ e1 R1 r1 g1 => ⟨ι1, ρ, h1, R1, E.ext e1, g1.bind fun y h2 ι2 H2 w _ e2 R2 r2 g2 => ⟨ι2, h2, x, y, R2, r1.ext e2, r2, g2⟩⟩⟩
theorem Cd.u64 (c : Cd X T C W) : X.A.units + 64 < cLine := by have := c.un; omega
theorem Cd.u1 (c : Cd X T C W) : X.A.units + 1 < cLine := by have := c.un; omega
theorem e_cmp (c : Cd X T C W) {op : COp} {a b : IE} {ea eb : Expr} {p : Pos} (hm : behindInMarks (copO op) eb = false) (ha : PE X ea (tE X.K X.mg T W a)) (hb : PE X eb (tE X.K X.mg T W b)) : PE X (.Compare ea [copO op] [eb] p) (tE X.K X.mg T W (.cmp op a b)) := by
  refine ⟨fun pins s σ H Q I q => ?_⟩
  refine (pe_cmpR (op_cmp op (E := fun k d H' => W k d σ H') c.u64) ha hb hm).run pins s σ H Q I ?_
  obtain ⟨ι, ρ, h, R, E, g⟩ := q
  simp only [evE] at g
  exact ⟨ι, ρ, h, R, E, g.bind fun x h1 ι1 H1 v _ e1 R1 r1 g1 => ⟨ι1, ρ, h1, R1, E.ext e1, g1.bind fun y h2 ι2 H2 w _ e2 R2 r2 g2 => ⟨ι2, h2, x, y, R2, r1.ext e2, r2, g2⟩⟩⟩
theorem t_cmp (c : Cd X T C W) {op : COp} {a b : IE} {ea eb : Expr} {p : Pos} (hm : behindInMarks (copO op) eb = false) (ha : PE X ea (tE X.K X.mg T W a)) (hb : PE X eb (tE X.K X.mg T W b)) : PT X (.Compare ea [copO op] [eb] p) (tT X.K X.mg T W (.val (.cmp op a b))) := by
  refine ⟨fun pins s σ H Q I q => ?_⟩
  refine (pt_cmpR (op_cmp op (E := fun k d H' => W k d σ H') c.u64) ha hb hm).run pins s σ H Q I ?_
  obtain ⟨ι, ρ, h, R, E, g⟩ := q
  simp only [evT, evE] at g
  refine ⟨ι, ρ, h, R, E, ?_⟩
  have g0 : GE X.K X.mg REq ((evE T a ρ h).bind fun x h => (evE T b ρ h).bind fun y h => (pr ((cmpS h op x y).map .bl) h).bind fun x h => pr (truS h x) h) ι H Q fun k d H' => W k d σ H' := by
    cases ha' : evE T a ρ h with
    | stuck => rw [ha'] at g; exact g
    | ex _ _ => rw [ha'] at g; exact g
    | ok x h1 =>
      rw [ha'] at g
      simp only [Out.bind_ok] at g ⊢
      cases hb' : evE T b ρ h1 with
      | stuck => rw [hb'] at g; exact g
      | ex _ _ => rw [hb'] at g; exact g
      | ok y h2 => rw [hb'] at g; exact g
  refine g0.bind fun x h1 ι1 H1 v _ e1 R1 r1 g1 => ⟨ι1, ρ, h1, R1, E.ext e1, g1.bind fun y h2 ι2 H2 w _ e2 R2 r2 g2 => ⟨ι2, h2, x, y, R2, r1.ext e2, r2, ?_⟩⟩
  cases hk : cmpS h2 op x y with
  | none => rw [hk] at g2; exact g2.elim
  | some k =>
    rw [hk] at g2
    show GE X.K X.mg (RVr X.K X.mg) (pr ((cmpS h2 _ x y).map AV.bl) h2) ι2 H2 _ _
    rw [hk]
    intro ι3 H3 z e3 R3 r3
    cases r3
    exact ⟨k, rfl, g2 ι3 H3 k e3 R3 rfl⟩
theorem marks2 {o1 o2 : CmpOp} {e1 e2 : Expr} (h : behindInMarks o2 e2 = false) : lastMarks [o1, o2] [e1, e2] = false := by
  show lastMarks [o2] [e2] = false
  exact h
/-- the second half of a chain -/
theorem chn_half (c : Cd X T C W) {σ : St} {o1 o2 : COp} {a b d : IE} {ι : Mp} {ρ : En} {h : AH} {H : Hp} {Q : VK} (R : Rep X.K X.mg ι h H) (E : REn X.K X.mg ι H ρ σ) (g : GE X.K X.mg (RVr X.K X.mg) (evE T (.chn o1 o2 a b d) ρ h) ι H Q fun k d H' => W k d σ H') :
    tChain (rA X.K X.mg (fun h a b => (cmpS h o1 a b).map .bl) fun k d H' => W k d σ H') (rA X.K X.mg (fun h a b => (cmpS h o2 a b).map .bl) fun k d H' => W k d σ H') (tE X.K X.mg T W a) (tE X.K X.mg T W b) (tE X.K X.mg T W d) σ H Q := by
  simp only [evE] at g
  refine ⟨ι, ρ, h, R, E, g.bind fun x h1 ι1 H1 v _ e1 R1 r1 g1 => ⟨ι1, ρ, h1, R1, E.ext e1, g1.bind fun y h2 ι2 H2 w _ e2 R2 r2 g2 => ⟨ι2, h2, x, y, R2, r1.ext e2, r2, ?_⟩⟩⟩
  cases hk : cmpS h2 o1 x y with
  | none => rw [hk] at g2; exact g2.elim
  | some k =>
    rw [hk] at g2
    show GE X.K X.mg (RVr X.K X.mg) (pr ((cmpS h2 _ x y).map AV.bl) h2) ι2 H2 _ _
    rw [hk]
    intro ι3 H3 z e3 R3 r3
    cases r3
    refine ⟨k, rfl, ?_⟩
    have g3 := g2.ext e3
    cases k with
    | false => exact iteF (g3.here R3 (.bl false))
    | true => exact iteT ⟨ι3, ρ, h2, R3, ((E.ext e1).ext e2).ext e3, g3.bind fun z h4 ι4 H4 u _ e4 R4 r4 g4 => ⟨ι4, h4, y, z, R4, (r2.ext e3).ext e4, r4, g4⟩⟩
theorem e_chn (c : Cd X T C W) {o1 o2 : COp} {a b d : IE} {ea eb ec : Expr} {p : Pos} (hm : behindInMarks (copO o2) ec = false) (ha : PE X ea (tE X.K X.mg T W a)) (hb : PE X eb (tE X.K X.mg T W b)) (hd : PE X ec (tE X.K X.mg T W d)) :
    PE X (.Compare ea [copO o1, copO o2] [eb, ec] p) (tE X.K X.mg T W (.chn o1 o2 a b d)) := by
  refine ⟨fun pins s σ H Q I q => ?_⟩
  refine (pe_chain (op_cmp o1 (E := fun k d H' => W k d σ H') c.u64) (op_cmp o2 (E := fun k d H' => W k d σ H') c.u64) ha hb hd (marks2 hm)).run pins s σ H Q I ?_
  obtain ⟨ι, ρ, h, R, E, g⟩ := q
  exact chn_half c R E g
theorem chn_bl {o1 o2 : COp} {a b d : IE} {ρ : En} {h h1 : AH} {v : AV} (e : evE T (.chn o1 o2 a b d) ρ h = .ok v h1) : ∃ k, v = .bl k := by
  simp only [evE] at e
  cases e1 : evE T a ρ h with
  | stuck => rw [e1] at e; cases e
  | ex _ _ => rw [e1] at e; cases e
  | ok x h2 =>
    rw [e1, Out.bind_ok] at e
    cases e2 : evE T b ρ h2 with
    | stuck => rw [e2] at e; cases e
    | ex _ _ => rw [e2] at e; cases e
    | ok y h3 =>
      rw [e2, Out.bind_ok] at e
      split at e
      · cases e3 : evE T d ρ h3 with
        | stuck => rw [e3] at e; cases e
        | ex _ _ => rw [e3] at e; cases e
        | ok z h4 =>
          rw [e3, Out.bind_ok] at e
          cases e4 : cmpS h4 o2 y z with
          | none => rw [e4] at e; cases e
          | some k => rw [e4] at e; cases e; exact ⟨k, rfl⟩
      · cases e; exact ⟨false, rfl⟩
      · cases e
theorem t_chn (c : Cd X T C W) {o1 o2 : COp} {a b d : IE} {ea eb ec : Expr} {p : Pos} (hm : behindInMarks (copO o2) ec = false) (ha : PE X ea (tE X.K X.mg T W a)) (hb : PE X eb (tE X.K X.mg T W b)) (hd : PE X ec (tE X.K X.mg T W d)) :
    PT X (.Compare ea [copO o1, copO o2] [eb, ec] p) (tT X.K X.mg T W (.val (.chn o1 o2 a b d))) := by
  refine ⟨fun pins s σ H Q I q => ?_⟩
  refine (pt_chain (op_cmp o1 (E := fun k d H' => W k d σ H') c.u64) (op_cmp o2 (E := fun k d H' => W k d σ H') c.u64) ha hb hd (marks2 hm)).run pins s σ H Q I ?_
  obtain ⟨ι, ρ, h, R, E, g⟩ := q
  have g : GE X.K X.mg REq ((evE T (.chn o1 o2 a b d) ρ h).bind fun x h => pr (truS h x) h) ι H Q fun k d H' => W k d σ H' := g
  refine chn_half c R E ?_
  refine g.bind fun v h1 ι1 H1 x ev e1 R1 r1 g1 => ?_
  obtain ⟨k, rfl⟩ := chn_bl ev
  cases r1
  exact ⟨k, rfl, g1.here R1 rfl⟩
/-! and, or, not -/
theorem rest_pe {op : BoolOp} {e : Expr} {es : List Expr} {p : Pos} {t : TE} (h : PE X (restB op e es p) t) : PE X (.BoolOp op (e :: es) p) t := by
  cases es with
  | nil => exact pe_one h
  | cons _ _ => exact h
theorem e_land {a b : IE} {ea eb : Expr} {es : List Expr} {p : Pos} (ha : PE X ea (tE X.K X.mg T W a)) (hb : PE X (restB .And eb es p) (tE X.K X.mg T W b)) : PE X (.BoolOp .And (ea :: eb :: es) p) (tE X.K X.mg T W (.land a b)) := by
  refine PE.imp (pe_andT ha (rest_pe hb)) ?_
  rintro σ H Q ⟨ι, ρ, h, R, E, g⟩
  simp only [evE] at g
  refine ⟨ι, ρ, h, R, E, g.bind fun x h1 ι1 H1 v _ e1 R1 r1 g1 => ?_⟩
  cases hk : truS h1 x with
  | none => rw [hk] at g1; exact g1.elim
  | some k =>
    rw [hk] at g1
    refine ⟨k, truS_ok R1 r1 hk, ?_⟩
    cases k with
    | true => exact iteT ⟨ι1, ρ, h1, R1, E.ext e1, g1⟩
    | false => exact iteF (g1.here R1 r1)
theorem e_lor {a b : IE} {ea eb : Expr} {es : List Expr} {p : Pos} (ha : PE X ea (tE X.K X.mg T W a)) (hb : PE X (restB .Or eb es p) (tE X.K X.mg T W b)) : PE X (.BoolOp .Or (ea :: eb :: es) p) (tE X.K X.mg T W (.lor a b)) := by
  refine PE.imp (pe_orT ha (rest_pe hb)) ?_
  rintro σ H Q ⟨ι, ρ, h, R, E, g⟩
  simp only [evE] at g
  refine ⟨ι, ρ, h, R, E, g.bind fun x h1 ι1 H1 v _ e1 R1 r1 g1 => ?_⟩
  cases hk : truS h1 x with
  | none => rw [hk] at g1; exact g1.elim
  | some k =>
    rw [hk] at g1
    refine ⟨k, truS_ok R1 r1 hk, ?_⟩
    cases k with
    | true => exact iteT (g1.here R1 r1)
    | false => exact iteF ⟨ι1, ρ, h1, R1, E.ext e1, g1⟩
theorem e_lnot {a : IE} {ea : Expr} {p : Pos} (ha : PE X ea (tE X.K X.mg T W a)) : PE X (.UnaryOp .Not ea p) (tE X.K X.mg T W (.lnot a)) := by
  refine PE.imp (pe_notT ha) ?_
  rintro σ H Q ⟨ι, ρ, h, R, E, g⟩
  simp only [evE] at g
  refine ⟨ι, ρ, h, R, E, g.bind fun x h1 ι1 H1 v _ e1 R1 r1 g1 => ?_⟩
  obtain ⟨u, hu, g2⟩ := g1.pr
  obtain ⟨k, hk, rfl⟩ := Option.map_eq_some_iff.mp hu
  exact ⟨k, truS_ok R1 r1 hk, g2.here R1 (.bl _)⟩
theorem e_neg {a : IE} {ea : Expr} {p : Pos} (ha : PE X ea (tE X.K X.mg T W a)) : PE X (.UnaryOp .USub ea p) (tE X.K X.mg T W (.neg a)) := by
  refine PE.imp (pe_un un_neg ha) ?_
  rintro σ H Q ⟨ι, ρ, h, R, E, g⟩
  simp only [evE] at g
  refine ⟨ι, ρ, h, R, E, g.bind fun x h1 ι1 H1 v _ e1 R1 r1 g1 => ?_⟩
  obtain ⟨u, hu, g2⟩ := g1.pr
  obtain ⟨i, hi, rfl⟩ := Option.map_eq_some_iff.mp hu
  have := intO_ok r1 hi
  subst this
  exact ⟨i, rfl, g2.here R1 (.int _)⟩
theorem e_ite {c : IT} {a b : IE} {ec ea eb : Expr} {p : Pos} (hc : PT X ec (tT X.K X.mg T W c)) (ha : PE X ea (tE X.K X.mg T W a)) (hb : PE X eb (tE X.K X.mg T W b)) : PE X (.IfExp ec ea eb p) (tE X.K X.mg T W (.ite c a b)) := by
  refine PE.imp (pe_ifExp hc ha hb) ?_
  rintro σ H Q ⟨ι, ρ, h, R, E, g⟩
  simp only [evE] at g
  refine ⟨ι, ρ, h, R, E, g.bind fun x h1 ι1 H1 v _ e1 R1 r1 g1 => ?_⟩
  have r1 : x = v := r1
  subst r1
  cases x with
  | true => exact iteT ⟨ι1, ρ, h1, R1, E.ext e1, g1⟩
  | false => exact iteF ⟨ι1, ρ, h1, R1, E.ext e1, g1⟩
theorem t_val {a : IE} {e : Expr} (hp : plainT e = true) (ha : PE X e (tE X.K X.mg T W a)) : PT X e (tT X.K X.mg T W (.val a)) := by
  refine PT.imp (pt_truth ha (by cases e <;> first | exact absurd hp Bool.false_ne_true | (intro _; rfl) | (rename_i op _ _; cases op <;> first | exact absurd hp Bool.false_ne_true | (intro _; rfl)))) ?_
  rintro σ H Q ⟨ι, ρ, h, R, E, g⟩
  simp only [evT] at g
  refine ⟨ι, ρ, h, R, E, g.bind fun x h1 ι1 H1 v _ e1 R1 r1 g1 => ?_⟩
  obtain ⟨k, hk, g2⟩ := g1.pr
  exact ⟨k, truS_ok R1 r1 hk, g2.here R1 rfl⟩
/-! lists of expressions, displays -/
theorem es_nil : PA X [] (tEs X.K X.mg T W .nil) := by
  refine PA.imp pa_nil ?_
  rintro σ H Q ⟨ι, ρ, h, R, E, g⟩
  exact g ι H [] .refl R .nil
theorem es_cons {a : IE} {as : IEs} {e : Expr} {es : List Expr} (hs : noStar e = true) (ha : PE X e (tE X.K X.mg T W a)) (hr : PA X es (tEs X.K X.mg T W as)) : PA X (e :: es) (tEs X.K X.mg T W (.cons a as)) := by
  refine PA.imp (pa_cons ha hr (star_of hs)) ?_
  rintro σ H Q ⟨ι, ρ, h, R, E, g⟩
  simp only [evEs] at g
  exact ⟨ι, ρ, h, R, E, g.bind fun x h1 ι1 H1 v _ e1 R1 r1 g1 => ⟨ι1, ρ, h1, R1, E.ext e1, g1.bind fun xs h2 ι2 H2 vs _ e2 R2 r2 g2 => g2.here R2 (.cons (r1.ext e2) r2)⟩⟩
theorem evEs_len : ∀ {es : IEs} {ρ : En} {h h1 : AH} {vs : List AV}, evEs T es ρ h = .ok vs h1 → vs.length = es.len
  | .nil, _, _, _, _, e => by simp only [evEs] at e; cases e; rfl
  | .cons a as, ρ, h, h1, vs, e => by
    simp only [evEs] at e
    cases e1 : evE T a ρ h with
    | stuck => rw [e1] at e; cases e
    | ex _ _ => rw [e1] at e; cases e
    | ok x h2 =>
      rw [e1, Out.bind_ok] at e
      cases e2 : evEs T as ρ h2 with
      | stuck => rw [e2] at e; cases e
      | ex _ _ => rw [e2] at e; cases e
      | ok xs h3 =>
        rw [e2, Out.bind_ok] at e
        cases e
        exact congrArg (· + 1) (evEs_len e2)
theorem chkEs_len : ∀ {es : IEs} {xs : List Expr}, chkEs C es xs = true → es.len = xs.length
  | .nil, [], _ => rfl
  | .nil, _ :: _, h => by simp only [chkEs] at h; cases h
  | .cons _ _, [], h => by simp only [chkEs] at h; cases h
  | .cons a as, x :: xs, h => by
    simp only [chkEs, Bool.and_eq_true] at h
    exact congrArg (· + 1) (chkEs_len h.2)
theorem le_line {n : Nat} (h : n ≤ 1000) : n ≤ sizeLine := by rw [sizeLine_eq]; omega
theorem e_tup {es : IEs} {xs : List Expr} {k : Nat} {p : Pos} (hl : es.len ≤ 1000) (ha : PA X xs (tEs X.K X.mg T W es)) : PE X (.Tuple xs k p) (tE X.K X.mg T W (.tup es)) := by
  refine PE.imp (pe_tup ha) ?_
  rintro σ H Q ⟨ι, ρ, h, R, E, g⟩
  simp only [evE] at g
  refine ⟨ι, ρ, h, R, E, g.bind fun vs h1 ι1 H1 us ev e1 R1 r1 g1 => ⟨?_, fun p hp => ?_⟩⟩
  · rw [← r1.length, evEs_len ev]; exact le_line hl
  · exact g1 ι1 _ _ (.new hp) (R1.new hp) (.tup (.inl ⟨.inl upd_same, R1.out hp⟩) (r1.ext (.new hp)))
/-- a new list, a value or numbered -/
theorem mkL_ok {m : Bool} {vs : List AV} {ws : List V} {ι : Mp} {h : AH} {H : Hp} {Q : VK} {E : XK} {p : Addr} (R : Rep X.K X.mg ι h H) (r : RVs X.K X.mg ι H vs ws) (g : GE X.K X.mg (RVr X.K X.mg) (mkL m vs h) ι H Q E) (hp : H p = none) : Q (.ref p) (upd H p (.lst ws)) := by
  cases m with
  | false => exact g ι _ _ (.new hp) (R.new hp) (.lst (.inl ⟨.inl upd_same, R.out hp⟩) (r.ext (.new hp)))
  | true =>
    refine g (ι.num p) _ _ (.num hp) (R.num hp ⟨ws, upd_same, r.ext (.num hp)⟩) (.ref ?_)
    show (ι.n ++ [p])[h.length]? = _
    rw [← R.len]; simp
theorem e_lst {m : Bool} {es : IEs} {xs : List Expr} {p : Pos} (hl : es.len ≤ 1000) (ha : PA X xs (tEs X.K X.mg T W es)) : PE X (.List xs p) (tE X.K X.mg T W (.lst m es)) := by
  refine PE.imp (pe_lst ha) ?_
  rintro σ H Q ⟨ι, ρ, h, R, E, g⟩
  simp only [evE] at g
  refine ⟨ι, ρ, h, R, E, g.bind fun vs h1 ι1 H1 us ev e1 R1 r1 g1 => ⟨?_, fun p hp => ?_⟩⟩
  · rw [← r1.length, evEs_len ev]; exact le_line hl
  · exact mkL_ok R1 r1 g1 hp
/-! subscripts -/
theorem e_idx (c : Cd X T C W) {a b : IE} {ea eb : Expr} {p : Pos} (hs : noSlice eb = true) (ha : PE X ea (tE X.K X.mg T W a)) (hb : PE X eb (tE X.K X.mg T W b)) : PE X (.Subscript ea eb p) (tE X.K X.mg T W (.idx a b)) := by
  refine ⟨fun pins s σ H Q I q => ?_⟩
  refine (pe_ix (ix_all (E := fun k d H' => W k d σ H') c.u1) ha hb (by cases eb <;> first | exact absurd hs Bool.false_ne_true | (intro _ _; rfl))).run pins s σ H Q I ?_
  obtain ⟨ι, ρ, h, R, E, g⟩ := q
  simp only [evE] at g
  exact ⟨ι, ρ, h, R, E, g.bind fun x h1 ι1 H1 v _ e1 R1 r1 g1 => ⟨ι1, ρ, h1, R1, E.ext e1, g1.bind fun y h2 ι2 H2 w _ e2 R2 r2 g2 => ⟨ι2, h2, x, y, R2, r1.ext e2, r2, g2⟩⟩⟩
end
end Zk
/-! Part 8: slices, dict displays, built-ins, calls. -/
namespace Zk
open PySem L2
section
variable {K : Fg} {mg : Str → Option Value} {ι ιd : Mp} {h : AH} {H H1 : Hp} {p : Addr} {u : HO}
theorem REn.aside {ρ : En} {σ : St} {o : HO} (r : REn K mg ι H ρ σ) (hp : H p = none) : REn K mg (ι.mk1 p) (upd H p o) ρ σ := ⟨r.len, fun i x h => let ⟨v, h1, h2⟩ := r.at_ i x h; ⟨v, h1, h2.aside hp⟩⟩
theorem REx.made {e : AEx} {c : Value} {d : Option Addr} (r : REx K mg (ι.mk1 p) H e c d) : REx K mg ι H e c d := by
  obtain ⟨C, h1, h2, h3⟩ := r
  refine ⟨C, h1, h2, h3.imp_right ?_⟩
  rintro ⟨dd, gs, e1, e2, e3, e4⟩
  exact ⟨dd, gs, e1, e2, (Mp.out1.mp e3).1, e4.made⟩
/-- something is done while p is being made: it stands as it was made -/
theorem GE.aside {α β γ δ : Type} {R : Mp → Hp → α → β → Prop} {R' : Mp → Hp → γ → δ → Prop} {E : XK} {o : Out γ} {k : γ → AH → Out α} {Q : β → Hp → Prop} {Q' : δ → Hp → Prop} (R0 : Rep K mg ι h H) (hp : H p = none) (g : GE K mg R (o.bind k) ι H Q E)
    (f : ∀ v h1 ιd H1 x, o = .ok v h1 → Ext ι H ιd H1 → Rep K mg (ιd.mk1 p) h1 H1 → H1 p = some u → R' (ιd.mk1 p) H1 v x → GE K mg R (k v h1) ι H Q E → Q' x H1) : GE K mg R' o (ι.mk1 p) (upd H p u) Q' E := by
  have keep : ∀ {ι' : Mp} {H' : Hp}, Ext (ι.mk1 p) (upd H p u) ι' H' → H' p = some u := fun e => e.keep _ _ upd_same (R0.out hp).1
  cases o with
  | stuck => exact g
  | ok a h1 =>
    intro i1 H1 b e1 r1 rv
    have k1 := keep e1
    obtain ⟨ιd, rfl, e2⟩ := e1.made hp
    exact f a h1 ιd H1 b rfl e2 r1 k1 rv g
  | ex x h1 =>
    intro i1 H1 c d e1 r1 rx
    obtain ⟨ιd, rfl, e2⟩ := e1.made hp
    exact g ιd H1 c d e2 r1.made rx.made
/-- what was made is written -/
theorem Ext.set1 (e : Ext ι H ιd H1) (hp : H p = none) : Ext ι H ιd (upd H1 p u) :=
  ⟨e.pre, e.gg, fun b o hb hn => by rw [upd_ne (ne_of_none hb hp)]; exact e.keep b o hb hn, fun b hb => by
    by_cases hz : b = p
    · subst hz; exact hp
    · rw [upd_ne hz] at hb; exact e.live b hb⟩
end
section
variable {X : Cx} {T : Tb} {C : Ck} {W : WX}
/-! slices -/
theorem part_ok {i : IE} {o : Option Expr} (h : partB C i o = true) (k : ∀ e, chkE C i e = true → PE X e (tE X.K X.mg T W i)) :
    ∃ t : TO, PO X o t ∧ ∀ σ H (Q : Option Int → Hp → Prop), (∃ ι ρ h, Rep X.K X.mg ι h H ∧ REn X.K X.mg ι H ρ σ ∧ GE X.K X.mg REq ((evE T i ρ h).bind fun l h => pr (partS i.isNop l) h) ι H Q fun c d H' => W c d σ H') → t σ H Q := by
  cases o with
  | none =>
    refine ⟨_, po_none, fun σ H Q => ?_⟩
    rintro ⟨ι, ρ, h1, R, E, g⟩
    unfold partB at h
    cases i <;> first
      | exact absurd h Bool.false_ne_true
      | exact g ι H none .refl R rfl
  | some e =>
    unfold partB at h
    simp only [Bool.and_eq_true, Bool.not_eq_true'] at h
    refine ⟨_, po_some (k e h.2), fun σ H Q => ?_⟩
    rintro ⟨ι, ρ, h1, R, E, g⟩
    refine ⟨ι, ρ, h1, R, E, g.bind fun x h2 ι2 H2 v _ e2 R2 r2 g2 => ?_⟩
    obtain ⟨l, hl, g3⟩ := g2.pr
    rw [h.1] at hl
    cases r2 <;> first
      | (cases hl; exact ⟨_, rfl, g3.here R2 rfl⟩)
      | cases hl
theorem cut_len {α : Type} (xs : List α) {n : Nat} (e : n = xs.length) (lo hi : Option Int) : cutA xs lo hi = (xs.drop (HT.sIx n 0 lo)).take (HT.sIx n n hi - HT.sIx n 0 lo) := by subst e; rfl
theorem RVs.cut {K : Fg} {mg : Str → Option Value} {ι : Mp} {H : Hp} {xs : List AV} {vs : List V} (r : RVs K mg ι H xs vs) (lo hi : Option Int) : RVs K mg ι H (cutA xs lo hi) (cutV vs lo hi) := by
  rw [cut_len xs r.length.symm]
  exact (r.drop _).take _
def rSl (K : Fg) (mg : Str → Option Value) (E : XK) : V → Option Int → Option Int → Hp → VK → Prop := fun x lo hi H Q => ∃ ι h a, Rep K mg ι h H ∧ RV K mg ι H a x ∧ GE K mg (RVr K mg) (pr (slcS h a lo hi) h) ι H Q E
theorem sl_all {E : XK} : SlR X (rSl X.K X.mg E) := by
  intro pins s σ H x v vl vu lo hi sl Q I rx hs pl pu q
  obtain ⟨ι, h, a, R, ra, g⟩ := q
  obtain ⟨c, e, g⟩ := g.pr
  unfold slcS at e
  split at e
  · rename_i xs hd
    cases e
    obtain ⟨p, ws, rfl, s1, t⟩ := deref_lst R ra hd
    exact sl_list pins s σ H _ v vl vu lo hi sl Q I rx hs pl pu ⟨p, ws, rfl, s1, fun l hl => g ι _ _ (.new hl) (R.new hl) (.lst (.inl ⟨.inl upd_same, R.out hl⟩) ((t.cut lo hi).ext (.new hl)))⟩
  · rename_i xs hd
    cases e
    obtain ⟨p, ws, rfl, s1, t⟩ := deref_tup R ra hd
    refine sl_tupA pins s σ H _ v vl vu lo hi sl Q I rx hs pl pu ⟨p, ws, rfl, s1.sq, fun hw => ?_, fun _ l hl => g ι _ _ (.new hl) (R.new hl) (.tup (.inl ⟨.inl upd_same, R.out hl⟩) ((t.cut lo hi).ext (.new hl)))⟩
    refine g ι _ _ .refl R (.tup s1 ?_)
    have : cutV ws lo hi = ws := by
      unfold cutV
      rw [hw.1, hw.2, List.drop_zero, Nat.sub_zero, List.take_length]
    rw [← this]
    exact t.cut lo hi
  · rename_i z hd
    have := deref_str R ra hd
    subst this
    split at e
    · rename_i hz
      cases e
      refine sl_str pins s σ H _ v vl vu lo hi sl Q I rx hs pl pu ⟨z, rfl, hz, ?_⟩
      have : cutS z lo hi = ⟨(cutA z.cps.toList lo hi).toArray⟩ := by
        unfold cutS
        rw [cut_len z.cps.toList (n := z.length) (by rw [Array.length_toList]; rfl)]
      rw [this]
      exact g ι _ _ .refl R (.str _)
    · cases e
  · cases e
theorem e_slc {a lo hi : IE} {ea : Expr} {el eh : Option Expr} {p p2 : Pos} (ha : PE X ea (tE X.K X.mg T W a)) (h1 : partB C lo el = true) (h2 : partB C hi eh = true) (k1 : ∀ e, chkE C lo e = true → PE X e (tE X.K X.mg T W lo)) (k2 : ∀ e, chkE C hi e = true → PE X e (tE X.K X.mg T W hi)) :
    PE X (.Subscript ea (.Slice el eh none p2) p) (tE X.K X.mg T W (.slc a lo hi)) := by
  obtain ⟨t1, P1, i1⟩ := part_ok h1 k1
  obtain ⟨t2, P2, i2⟩ := part_ok h2 k2
  refine ⟨fun pins s σ H Q I q => ?_⟩
  refine (pe_slice (sl_all (E := fun k d H' => W k d σ H')) ha P1 P2).run pins s σ H Q I ?_
  obtain ⟨ι, ρ, h, R, E, g⟩ := q
  simp only [evE] at g
  refine ⟨ι, ρ, h, R, E, g.bind fun x h1 ι1 H1 v _ e1 R1 r1 g1 => i1 _ _ _ ⟨ι1, ρ, h1, R1, E.ext e1, g1.bind fun l h2 ι2 H2 l' _ e2 R2 r2 g2 => ?_⟩⟩
  have r2 : l = l' := r2
  subst r2
  refine i2 _ _ _ ⟨ι2, ρ, h2, R2, (E.ext e1).ext e2, g2.bind fun u h3 ι3 H3 u' _ e3 R3 r3 g3 => ?_⟩
  have r3 : u = u' := r3
  subst r3
  exact ⟨ι3, h3, x, R3, (r1.ext e2).ext e3, g3⟩
/-! dict displays -/
def trsP (K : Fg) (mg : Str → Option Value) (T : Tb) (W : WX) : IPs → List (TE × TE)
  | .nil => []
  | .cons k v ps => (tE K mg T W k, tE K mg T W v) :: trsP K mg T W ps
def RPs (K : Fg) (mg : Str → Option Value) : Mp → Hp → List AV × List AV → List (V × V) → Prop := fun ι H p ps => RVs K mg ι H p.1 (ps.map (·.1)) ∧ RVs K mg ι H p.2 (ps.map (·.2))
theorem pairs_ok {K : Fg} {mg : Str → Option Value} {σ : St} : ∀ (ps : IPs) {ι : Mp} {ρ : En} {h : AH} {H : Hp} {Q : List (V × V) → Hp → Prop}, Rep K mg ι h H → REn K mg ι H ρ σ → GE K mg (RPs K mg) (evP T ps ρ h) ι H Q (fun c d H' => W c d σ H') → tPairs (trsP K mg T W ps) σ H Q
  | .nil, ι, ρ, h, H, Q, R, E, g => by
    simp only [evP] at g
    exact g ι H [] .refl R ⟨.nil, .nil⟩
  | .cons k v ps, ι, ρ, h, H, Q, R, E, g => by
    simp only [evP] at g
    refine ⟨ι, ρ, h, R, E, g.bind fun x h1 ι1 H1 x' _ e1 R1 r1 g1 => ⟨ι1, ρ, h1, R1, E.ext e1, g1.bind fun y h2 ι2 H2 y' _ e2 R2 r2 g2 => ?_⟩⟩
    refine pairs_ok ps R2 ((E.ext e1).ext e2) (g2.bind fun z h3 ι3 H3 z' _ e3 R3 r3 g3 => g3.here R3 ⟨.cons ((r1.ext e2).ext e3) r3.1, .cons (r2.ext e3) r3.2⟩)
theorem pps_of {pos : Pos} : ∀ (ps : IPs) {ks : List (Option Expr)} {vs : List Expr}, chkP C ps ks vs = true → (∀ i e, chkE C i e = true → PE X e (tE X.K X.mg T W i)) → PPs X pos ks vs (trsP X.K X.mg T W ps) ∧ ks.all (·.isSome) = true ∧ ks.length = vs.length
  | .nil, [], [], _, _ => ⟨pps_nil, rfl, rfl⟩
  | .nil, [], _ :: _, h, _ => by simp only [chkP] at h; cases h
  | .nil, _ :: _, _, h, _ => by simp only [chkP] at h; cases h
  | .cons k v ps, some ek :: ks, ev :: vs, h, f => by
    simp only [chkP, Bool.and_eq_true] at h
    obtain ⟨h1, h2, h3⟩ := pps_of (pos := pos) ps h.2 f
    exact ⟨pps_cons (f k ek h.1.1) (f v ev h.1.2) h1, by rw [List.all_cons, h2]; rfl, congrArg (· + 1) h3⟩
  | .cons k v ps, none :: _, _, h, _ => by simp only [chkP] at h; cases h
  | .cons k v ps, [], _, h, _ => by simp only [chkP] at h; cases h
  | .cons k v ps, some _ :: _, [], h, _ => by simp only [chkP] at h; cases h
theorem keysA_ok {K : Fg} {mg : Str → Option Value} {ι : Mp} {H : Hp} : ∀ {xs : List AV} {vs : List V} {ks : List Key}, RVs K mg ι H xs vs → keysA xs = some ks → vs = ks.map kV
  | _, _, _, .nil, e => by cases e; rfl
  | _, _, _, .cons r t, e => by
    unfold keysA at e
    obtain ⟨k, h1, e⟩ := Option.bind_eq_some_iff.mp e
    obtain ⟨ks, h2, rfl⟩ := Option.map_eq_some_iff.mp e
    rw [keysA_ok t h2]
    cases r <;> first
      | (cases h1; rfl)
      | cases h1
theorem merge_nodup : ∀ (b : List (Key × V)) (a : List (Key × V)), (a.map (·.1) ++ b.map (·.1)).Nodup → mergeK a b = a ++ b
  | [], a, _ => by show a = _; rw [List.append_nil]
  | p :: b, a, h => by
    show mergeK (putK a p.1 p.2) b = _
    have hn : putK a p.1 p.2 = a ++ [p] := by
      unfold putK
      rw [if_neg]
      intro hc
      obtain ⟨q, hq, hk⟩ := List.any_eq_true.mp hc
      have hk : q.1 = p.1 := by simpa using hk
      have := (List.nodup_append.mp h).2.2 q.1 (List.mem_map_of_mem hq) p.1 (by simp)
      exact this hk
    rw [hn, merge_nodup b (a ++ [p]) (by simpa using h), List.append_assoc]
    rfl
theorem e_dct {m : Bool} {ps : IPs} {ks : List (Option Expr)} {vs : List Expr} {p : Pos} (h1 : PPs X p ks vs (trsP X.K X.mg T W ps)) (h2 : ks.all (·.isSome) = true) (h3 : ks.length = vs.length) (h4 : ks.isEmpty = false) (h5 : ks.length ≤ 15) : PE X (.Dict ks vs p) (tE X.K X.mg T W (.dct m ps)) := by
  refine PE.imp (pe_disp h1 h2 h3 (fun e => by rw [e] at h4; cases h4) h5) ?_
  rintro σ H Q ⟨ι, ρ, h, R, E, g⟩ p hp
  simp only [evE] at g
  refine pairs_ok ps (R.aside hp) (E.aside hp) (g.aside R hp fun v h1 ιd H1 ps' _ e1 R1 k1 r1 g1 => ⟨k1, ?_⟩)
  obtain ⟨r1, r2⟩ := r1
  unfold mkD at g1
  cases hk : keysA v.1 with
  | none => rw [hk] at g1; exact g1.elim
  | some keys =>
    rw [hk] at g1
    simp only at g1
    split at g1
    · rename_i hc
      obtain ⟨c1, c2, c3⟩ := hc
      have ek := keysA_ok r1 hk
      have l2 : v.2.length = ps'.length := by rw [r2.length, List.length_map]
      have el : keys.length = (ps'.map (·.2)).length := by rw [List.length_map, ← l2]; exact c2
      have ez : ps' = (keys.zip (ps'.map (·.2))).map fun kv => (kV kv.1, kv.2) := by
        refine List.ext_getElem (by simp; omega) fun i h1 h2 => ?_
        simp only [List.getElem_map, List.getElem_zip]
        have : (ps'.map (·.1))[i]'(by simpa using h1) = (keys.map kV)[i]'(by simp at h2 ⊢; omega) := by simp only [ek]
        simp only [List.getElem_map] at this
        rw [← this]
      refine ⟨keys.zip (ps'.map (·.2)), ez, by rw [List.length_zip]; omega, ?_⟩
      have em : mergeK [] (keys.zip (ps'.map (·.2))) = keys.zip (ps'.map (·.2)) := by
        rw [merge_nodup _ [] (by rw [List.map_nil, List.nil_append, List.map_fst_zip (by rw [el]; exact Nat.le_refl _)]; exact c1), List.nil_append]
      rw [em]
      have hnp := R.out hp
      have pn : p ∉ ιd.n := (R1.gl p List.mem_cons_self).2
      have pg : p ∉ ιd.g := by rw [e1.gg]; exact hnp.2
      cases m with
      | false => exact g1 ιd _ _ (e1.set1 hp) R1.chg.made (.dct ⟨.inl upd_same, pn, pg⟩ el c1 r2.chg.made)
      | true =>
        refine g1 (ιd.num p) _ _ ((e1.set1 hp).numD hp) (R1.chg.numMk pg ⟨_, upd_same, el, c1, r2.chg.num⟩) (.ref ?_)
        show (ιd.n ++ [p])[h1.length]? = _
        have : ιd.n.length = h1.length := R1.len
        rw [← this]; simp
    · exact g1.elim
end
end Zk
/-! Part 8b: built-ins, methods, calls. -/
namespace Zk
open PySem L2
section
variable {X : Cx} {T : Tb} {C : Ck} {W : WX}
theorem stars {es : IEs} {xs : List Expr} {env : Env} (h : chkEs C es xs = true) {pos : Pos} : (backTo pos (starEach xs env)).any (·.1) = false ∧ (backTo pos (starEach xs env)).all (fun x => !x.1) = true := by
  induction xs generalizing es with
  | nil => exact ⟨rfl, rfl⟩
  | cons x xs ih =>
    cases es with
    | nil => simp only [chkEs] at h; cases h
    | cons a as =>
      simp only [chkEs, Bool.and_eq_true] at h
      obtain ⟨i1, i2⟩ := ih h.2
      rw [star_of h.1.1]
      unfold backTo at i1 i2 ⊢
      rw [List.map_cons, List.any_cons, List.all_cons, i1, i2]
      exact ⟨rfl, rfl⟩
theorem bi_fun {b : Bi} {id : String} (h : biV b = .builtin id) : bootBuiltins (biN b) = some (.builtin id) := by
  rw [← h]; cases b <;> rfl
theorem bi_ty {b : Bi} {id : String} (h : biV b = .type id) : bootBuiltins (biN b) = some (.type id) := by
  rw [← h]; cases b <;> rfl
theorem bi_ok (b : Bi) : biN b ≠ "__name__" ∧ (biN b == ("__debug__" : Str)) = false := by
  cases b <;> exact ⟨by decide, by decide⟩
theorem e_bi (c : Cd X T C W) {b : Bi} {es : IEs} {xs : List Expr} {p q : Pos} (hg : glB C.sc (biN b) = true) (hb : C.bl.contains (biN b) = true) (h0 : xs.isEmpty = false) (hs : chkEs C es xs = true) (ha : PA X xs (tEs X.K X.mg T W es)) : PE X (.Call (.Name (biN b) p) xs [] q) (tE X.K X.mg T W (.bi b es)) := by
  cases xs with
  | nil => cases h0
  | cons x xs =>
    have hst : starEach (x :: xs) X.env = (false, eval x X.env) :: starEach xs X.env := by
      cases es with
      | nil => simp only [chkEs] at hs; cases hs
      | cons a as => simp only [chkEs, Bool.and_eq_true] at hs; exact star_of hs.1.1
    have hpl : (backTo q (starEach xs X.env)).any (·.1) = false := by
      cases es with
      | nil => simp only [chkEs] at hs; cases hs
      | cons a as => simp only [chkEs, Bool.and_eq_true] at hs; exact (stars hs.2).1
    refine ⟨fun pins s σ H Q I hq => ?_⟩
    obtain ⟨ι, ρ, h, R, E, g⟩ := hq
    simp only [evE] at g
    have k : tCB (rB X.K X.mg (fun h vs => biS T h b vs) fun k d H' => W k d σ H') (tEs X.K X.mg T W es) σ H Q :=
      ⟨ι, ρ, h, R, E, g.bind fun vs h1 ι1 H1 us _ e1 R1 r1 g1 => ⟨ι1, h1, vs, R1, r1, g1⟩⟩
    have cb := call_bi T c.iso c.calm c.gd c.un b (E := fun k d H' => W k d σ H')
    cases hv : biV b with
    | builtin id =>
      rw [hv] at cb
      exact (pe_callB cb (c.gl hg) (c.bl _ hb) (bi_fun hv) ha (bi_ok b).1 (bi_ok b).2 hst hpl).run pins s σ H Q I k
    | type id =>
      rw [hv] at cb
      exact (pe_callTy cb (c.gl hg) (c.bl _ hb) (bi_ty hv) ha (bi_ok b).1 (bi_ok b).2 hst hpl).run pins s σ H Q I k
    | _ => cases b <;> cases hv
theorem base_of {o : Expr} {a : Str} {env : Env} {w : Sem Value} (h : baseB o = true) : attributeBase o a env w = w := by
  cases o <;> first
    | rfl
    | (rename_i f xs ks p
       cases f <;> first
         | exact absurd h Bool.false_ne_true
         | rfl
         | (rename_i id p2
            cases xs <;> cases ks <;> first
              | rfl
              | (have h : (!(id == ("super" : Str))) = true := h
                 unfold attributeBase
                 have h2 : (id != ("super" : Str)) = true := h
                 simp only [h2, Bool.true_or]
                 rfl)))
theorem e_bm (c : Cd X T C W) {m : Bm} {o : IE} {es : IEs} {eo : Expr} {xs : List Expr} {ap cp : Pos} (hb : baseB eo = true) (hl : (ap.endLine == cp.line) = true) (h20 : xs.length < 20) (hs : chkEs C es xs = true) (ho : PE X eo (tE X.K X.mg T W o)) (ha : PA X xs (tEs X.K X.mg T W es)) :
    PE X (.Call (.Attribute eo (bmN m) ap) xs [] cp) (tE X.K X.mg T W (.bm m o es)) := by
  obtain ⟨f1, f2, f3⟩ := bm_facts m
  refine ⟨fun pins s σ H Q I hq => ?_⟩
  obtain ⟨ι, ρ, h, R, E, g⟩ := hq
  simp only [evE] at g
  have k : tE X.K X.mg T W o σ H fun x H1 => tyV X.K (bmT m) x H1 ∧ tEs X.K X.mg T W es σ H1 fun xs H2 => rM X.K X.mg (fun h a as => bmS h m a as) (fun k d H' => W k d σ H') x xs H2 Q := by
    refine ⟨ι, ρ, h, R, E, g.bind fun x h1 ι1 H1 v _ e1 R1 r1 g1 => ?_⟩
    split at g1
    · rename_i ht
      exact ⟨tyM_ok R1 r1 ht, ι1, ρ, h1, R1, E.ext e1, g1.bind fun vs h2 ι2 H2 us _ e2 R2 r2 g2 => ⟨ι2, h2, x, vs, R2, r1.ext e2, r2, g2⟩⟩
    · exact g1.elim
  have mt := mt_bm (X := X) m (E := fun k d H' => W k d σ H')
  cases xs with
  | nil =>
    refine (pe_bm0 f1 f2 f3 mt ho (base_of hb) hl).run pins s σ H Q I ?_
    obtain ⟨ι2, ρ2, h2, R2, E2, g2⟩ := k
    refine ⟨ι2, ρ2, h2, R2, E2, g2.mono ?_⟩
    rintro b H1 ⟨k1, ι3, ρ3, h3, R3, E3, g3⟩
    refine ⟨k1, ?_⟩
    cases es with
    | nil => exact g3.here R3 .nil
    | cons _ _ => simp only [chkEs] at hs; cases hs
  | cons x xs =>
    have hst : starEach (x :: xs) X.env = (false, eval x X.env) :: starEach xs X.env := by
      cases es with
      | nil => simp only [chkEs] at hs; cases hs
      | cons a as => simp only [chkEs, Bool.and_eq_true] at hs; exact star_of hs.1.1
    have hpl : (backTo cp (starEach xs X.env)).any (·.1) = false := by
      cases es with
      | nil => simp only [chkEs] at hs; cases hs
      | cons a as => simp only [chkEs, Bool.and_eq_true] at hs; exact (stars hs.2).1
    refine (pe_bm f1 f2 f3 mt ho ha (base_of hb) ?_ hl hst hpl).run pins s σ H Q I k
    rw [(stars hs).2]
    have : decide ((x :: xs).length + ([] : List Keyword).length + (if ([] : List Keyword).isEmpty then 0 else 1) < 30) = true := by
      rw [decide_eq_true_eq]
      show (x :: xs).length + 0 + 0 < 30
      omega
    rw [this]
    rfl
/-! calls of the program's defs -/
theorem run_own (c : Cd X T C W) {f : Str} {a : Addr} {vs kvs : List AV} {ks : List Str} {us ws : List Value} {xs zs : List V} {ι : Mp} {h : AH} {pins : List (Addr × Obj)} {s : Shared} {σ : St} {H : Hp} {Q : VK} (hm : X.mg f = some (.ref a)) (I : Inv X pins σ H s) (r : Vals xs us) (rz : Vals zs ws)
    (R : Rep X.K X.mg ι h H) (r1 : RVs X.K X.mg ι H vs xs) (r2 : RVs X.K X.mg ι H kvs zs) (g : GE X.K X.mg (RVr X.K X.mg) (callS T f vs ks kvs h) ι H Q fun k d H' => W k d σ H') : wpAny (model X.prog X.w) X.A (call (.ref a) us (ks.zip ws)) (EP X pins σ Q) X.xe s := by
  unfold callS at g
  cases ha : T.arr f vs ks kvs with
  | none => rw [ha] at g; exact g.elim
  | some as =>
    rw [ha] at g
    refine wpAny_call (codeAny_mono (c.fns.run f vs ks kvs as h a hm ha X.stack s H us xs ws zs ι Q _ I.env0 r rz R r1 r2 g) fun res s' hq => ?_)
    cases res with
    | error e => exact c.tk e s' (XE.of_call I (fun _ _ _ h => h) hq)
    | ok fl =>
      cases fl with
      | ret u => exact I.after hq
      | next => exact False.elim hq
      | brk => exact False.elim hq
      | cont => exact False.elim hq
theorem e_call (c : Cd X T C W) {f : Str} {es : IEs} {xs : List Expr} {p q : Pos} (hg : glB C.sc f = true) (hf : C.fs.contains f = true) (hn : okN f = true) (hs : chkEs C es xs = true) (ha : PA X xs (tEs X.K X.mg T W es)) : PE X (.Call (.Name f p) xs [] q) (tE X.K X.mg T W (.call f es)) := by
  obtain ⟨a, hm, hk⟩ := c.fs f hf
  refine ⟨fun pins s σ H Q I hq => ?_⟩
  obtain ⟨ι, ρ, h, R, E, g⟩ := hq
  simp only [evE] at g
  refine wpAny_Call_Name_kw (ld_glob I (c.gl hg) hm ?_ (okN_of hn).1)
  have k : tEs X.K X.mg T W es σ H fun xs H1 => ∃ ι1 h1 vs, Rep X.K X.mg ι1 h1 H1 ∧ RVs X.K X.mg ι1 H1 vs xs ∧ GE X.K X.mg (RVr X.K X.mg) (callS T f vs [] [] h1) ι1 H1 Q fun k d H' => W k d σ H' :=
    ⟨ι, ρ, h, R, E, g.bind fun vs h1 ι1 H1 us _ e1 R1 r1 g1 => ⟨ι1, h1, vs, R1, r1, g1⟩⟩
  cases xs with
  | nil =>
    cases es with
    | cons _ _ => simp only [chkEs] at hs; cases hs
    | nil =>
      simp only [evEs] at g
      exact PySem.W.callWith_K0 I.kIn hk (run_own (us := []) c hm I .nil .nil R .nil .nil g)
  | cons x xs =>
    have hst : starEach (x :: xs) X.env = (false, eval x X.env) :: starEach xs X.env := by
      cases es with
      | nil => simp only [chkEs] at hs; cases hs
      | cons a as => simp only [chkEs, Bool.and_eq_true] at hs; exact star_of hs.1.1
    have hpl : (backTo q (starEach xs X.env)).any (·.1) = false := by
      cases es with
      | nil => simp only [chkEs] at hs; cases hs
      | cons a as => simp only [chkEs, Bool.and_eq_true] at hs; exact (stars hs.2).1
    refine PySem.W.callWith_K (h₀ := X.base) I.ok.mod.kin hk (thn (ha.run q pins s σ H _ I k) fun us s1 ⟨ys, H1, I1, r, ι1, h1, vs, R1, r1, g1⟩ => ⟨I1.kIn, ?_⟩) hst hpl
    exact run_own c hm I1 r .nil R1 r1 .nil g1
theorem pks_of : ∀ (es : IEs) {kws : List Keyword}, chkEs C es (kws.map (·.value)) = true → (∀ i e, chkE C i e = true → PE X e (tE X.K X.mg T W i)) → PK X kws (tEs X.K X.mg T W es)
  | .nil, [], _, _ => ⟨fun _ pins s σ H Q I ⟨ι, ρ, h, R, E, g⟩ => pk_nil.run ⟨0, 0, 0, 0⟩ pins s σ H Q I (by simp only [evEs] at g; exact g.here R .nil)⟩
  | .nil, _ :: _, h, _ => by simp only [List.map_cons, chkEs] at h; cases h
  | .cons _ _, [], h, _ => by simp only [List.map_nil, chkEs] at h; cases h
  | .cons a as, ⟨n, e, kp⟩ :: kws, h, f => by
    simp only [List.map_cons, chkEs, Bool.and_eq_true] at h
    have k := pk_cons (nm := n) (kpos := kp) (f a e h.1.2) (pks_of as h.2 f)
    refine ⟨fun pos pins s σ H Q I q => k.run pos pins s σ H Q I ?_⟩
    obtain ⟨ι, ρ, h, R, E, g⟩ := q
    simp only [evEs] at g
    exact ⟨ι, ρ, h, R, E, g.bind fun x h1 ι1 H1 v _ e1 R1 r1 g1 => ⟨ι1, ρ, h1, R1, E.ext e1, g1.bind fun xs h2 ι2 H2 vs _ e2 R2 r2 g2 => g2.here R2 (.cons (r1.ext e2) r2)⟩⟩
theorem kwFacts {pos : Pos} {env : Env} : ∀ {kws : List Keyword} {ks : List Str}, kws.map (·.arg) = ks.map some →
    (backToKw pos (keywordEach kws env)).all (·.1.isSome) = true ∧ (backToKw pos (keywordEach kws env)).filterMap (·.1) = ks ∧ (backToKw pos (keywordEach kws env)).any (·.1.isNone) = false
  | [], [], _ => ⟨rfl, rfl, rfl⟩
  | [], _ :: _, h => by simp at h
  | _ :: _, [], h => by simp at h
  | ⟨n, e, kp⟩ :: kws, k :: ks, h => by
    simp only [List.map_cons, List.cons.injEq] at h
    obtain ⟨rfl, h⟩ := h
    obtain ⟨h1, h2, h3⟩ := kwFacts (pos := pos) (env := env) h
    unfold backToKw at h1 h2 h3 ⊢
    refine ⟨?_, ?_, ?_⟩
    · simp only [keywordEach, List.map_cons, List.all_cons, h1]; rfl
    · simp only [keywordEach, List.map_cons, List.filterMap_cons, h2]
    · simp only [keywordEach, List.map_cons, List.any_cons, h3]; rfl
theorem e_calk (c : Cd X T C W) {f : Str} {es vs : IEs} {ks : List Str} {xs : List Expr} {kws : List Keyword} {p q : Pos} (hg : glB C.sc f = true) (hf : C.fs.contains f = true) (hn : okN f = true) (hs : chkEs C es xs = true) (hks : kws.map (·.arg) = ks.map some) (ha : PA X xs (tEs X.K X.mg T W es)) (hkw : PK X kws (tEs X.K X.mg T W vs)) :
    PE X (.Call (.Name f p) xs kws q) (tE X.K X.mg T W (.calk f es ks vs)) := by
  obtain ⟨a, hm, hk⟩ := c.fs f hf
  obtain ⟨k1, k2, k3⟩ := kwFacts (pos := q) (env := X.env) hks
  refine ⟨fun pins s σ H Q I hq => ?_⟩
  obtain ⟨ι, ρ, h, R, E, g⟩ := hq
  simp only [evE] at g
  refine wpAny_Call_Name_kw (ld_glob I (c.gl hg) hm ?_ (okN_of hn).1)
  have k : tEs X.K X.mg T W es σ H fun xs H1 => ∃ ι1 h1 as, Rep X.K X.mg ι1 h1 H1 ∧ REn X.K X.mg ι1 H1 ρ σ ∧ RVs X.K X.mg ι1 H1 as xs ∧ GE X.K X.mg (RVr X.K X.mg) ((evEs T vs ρ h1).bind fun us h => callS T f as ks us h) ι1 H1 Q fun k d H' => W k d σ H' :=
    ⟨ι, ρ, h, R, E, g.bind fun vs h1 ι1 H1 us _ e1 R1 r1 g1 => ⟨ι1, h1, vs, R1, E.ext e1, r1, g1⟩⟩
  have k' : ∀ {xs : List V} {H1 : Hp}, (∃ ι1 h1 as, Rep X.K X.mg ι1 h1 H1 ∧ REn X.K X.mg ι1 H1 ρ σ ∧ RVs X.K X.mg ι1 H1 as xs ∧ GE X.K X.mg (RVr X.K X.mg) ((evEs T vs ρ h1).bind fun us h => callS T f as ks us h) ι1 H1 Q fun k d H' => W k d σ H') →
      tEs X.K X.mg T W vs σ H1 fun zs H2 => ∃ ι2 h2 as bs, Rep X.K X.mg ι2 h2 H2 ∧ RVs X.K X.mg ι2 H2 as xs ∧ RVs X.K X.mg ι2 H2 bs zs ∧ GE X.K X.mg (RVr X.K X.mg) (callS T f as ks bs h2) ι2 H2 Q fun k d H' => W k d σ H' := by
    rintro xs H1 ⟨ι1, h1, as, R1, E1, r1, g1⟩
    exact ⟨ι1, ρ, h1, R1, E1, g1.bind fun bs h2 ι2 H2 us _ e2 R2 r2 g2 => ⟨ι2, h2, as, bs, R2, r1.ext e2, r2, g2⟩⟩
  cases xs with
  | nil =>
    have k0 := es_nil (X := X) (T := T) (W := W)
    have e0 : es = .nil := by
      cases es with
      | nil => rfl
      | cons _ _ => simp only [chkEs] at hs; cases hs
    subst e0
    obtain ⟨ι0, ρ0, h0, R0, E0, g0⟩ := k
    simp only [evEs] at g0
    have kk := k' (g0.here R0 .nil)
    refine PySem.W.callWith_KW0 (h₀ := X.base) I.ok.mod.kin hk k1 (thn (hkw.run q pins s σ H _ I kk) fun ws s2 ⟨zs, H2, I2, rz, ι2, h2, as, bs, R2, r1, r2, g2⟩ => ⟨I2.kIn, ?_⟩) ?_
    · rw [k2]
      exact run_own (us := []) c hm I2 .nil rz R2 r1 r2 g2
    · rw [k3]; rfl
  | cons x xs =>
    have hst : starEach (x :: xs) X.env = (false, eval x X.env) :: starEach xs X.env := by
      cases es with
      | nil => simp only [chkEs] at hs; cases hs
      | cons a as => simp only [chkEs, Bool.and_eq_true] at hs; exact star_of hs.1.1
    refine PySem.W.callWith_KW (h₀ := X.base) I.ok.mod.kin hk k1 (thn (ha.run q pins s σ H _ I k) fun us s1 ⟨ys, H1, I1, r, q1⟩ => ?_) (by rw [(stars hs).1, k3]; rfl) hst
    refine thn (hkw.run q pins s1 σ H1 _ I1 (k' q1)) fun ws s2 ⟨zs, H2, I2, rz, ι2, h2, as, bs, R2, r1, r2, g2⟩ => ⟨I2.kIn, ?_⟩
    rw [k2]
    exact run_own c hm I2 r rz R2 r1 r2 g2
end
end Zk
/-! Part 8c: what is walked. -/
namespace Zk
open PySem L2
section
variable {K : Fg} {mg : Str → Option Value} {ι ι1 : Mp} {h h1 : AH} {H H1 : Hp}
/-- a list that is walked, as it lies -/
def SrcAt (K : Fg) (mg : Str → Option Value) (ι : Mp) (H : Hp) (s : ASrc) (p : Addr) : Prop := match s with
  | .fix xs => ∃ ws, FzL K ι H p ws ∧ RVs K mg ι H xs ws
  | .live r _ => ι.n[r]? = some p
theorem SrcAt.now {s : ASrc} {p : Addr} (S : SrcAt K mg ι H s p) (e : ExtW ι H ι1 H1) (R : Rep K mg ι1 h1 H1) (f : s.fin h1 = true) :
    ∃ ws, SqL K H1 p ws ∧ ws.length = s.len ∧ ∀ i w, ws[i]? = some w → ∃ a, s.get h1 i = some a ∧ RV K mg ι1 H1 a w := by
  cases s with
  | fix xs =>
    obtain ⟨ws, s1, t⟩ := S
    exact ⟨ws, (s1.extW e).sq, t.length.symm, fun i w hw => by obtain ⟨x, h1, h2⟩ := t.get hw; exact ⟨x, h1, h2.extW e⟩⟩
  | live r n =>
    have S := e.get S
    unfold ASrc.fin at f
    simp only at f
    split at f
    · rename_i xs hx
      obtain ⟨a', ha, ws, k1, t⟩ := R.at hx
      rw [S] at ha; cases ha
      refine ⟨ws, .inl (.inl k1), by rw [← t.length]; exact beq_iff_eq.mp f, fun i w hw => ?_⟩
      obtain ⟨x, h2, h3⟩ := t.get hw
      exact ⟨x, by unfold ASrc.get; simp only [hx]; exact h2, h3⟩
    · cases f
theorem srcL_ok {a : AV} {x : V} {s : ASrc} (R : Rep K mg ι h H) (ra : RV K mg ι H a x) (e : srcL h a = some s) : s.fin h = true ∧ ∃ p, x = .ref p ∧ SrcAt K mg ι H s p := by
  unfold srcL at e
  split at e
  · cases e
    cases ra with
    | lst f t => exact ⟨rfl, _, rfl, _, f, t⟩
  · rename_i r
    split at e
    · rename_i xs hx
      cases e
      cases ra with
      | ref hi => exact ⟨by unfold ASrc.fin; simp only [hx]; exact beq_iff_eq.mpr rfl, _, rfl, hi⟩
    · cases e
  · cases e
theorem wl {p : Addr} {n : Nat} : Walk (Itl K p) n (fun H => ∃ ws, SqL K H p ws ∧ ws.length = n) (fun i H x H' => H' = H ∧ ∀ ws, SqL K H p ws → ws[i]? = some x) :=
  ⟨fun i _ hi ⟨ws, q, e⟩ => ⟨ws, ws[i]'(by omega), q, by simp [show i < ws.length by omega]⟩, fun _ ⟨ws, q, e⟩ => ⟨ws, q, by omega⟩, fun _ _ _ _ _ _ y => ⟨y.1, fun ws q => y.2 ws q⟩⟩
theorem wt {p : Addr} {n : Nat} : Walk (Itt K p) n (fun H => ∃ ws, SqT K H p ws ∧ ws.length = n) (fun i H x H' => H' = H ∧ ∀ ws, SqT K H p ws → ws[i]? = some x) :=
  ⟨fun i _ hi ⟨ws, q, e⟩ => ⟨ws, ws[i]'(by omega), q, by simp [show i < ws.length by omega]⟩, fun _ ⟨ws, q, e⟩ => ⟨ws, q, by omega⟩, fun _ _ _ _ _ _ y => ⟨y.1, fun ws q => y.2 ws q⟩⟩
theorem we {p : Addr} {n : Nat} : Walk (Ite K p) n (fun H => ∃ ws, SqL K H p ws ∧ ws.length = n) (fun i H v H' => ∃ T x, v = .ref T ∧ H T = none ∧ H' = upd H T (.tup [.int (i : Nat), x]) ∧ ∀ ws, SqL K H p ws → ws[i]? = some x) :=
  ⟨fun i _ hi ⟨ws, q, e⟩ => ⟨ws, ws[i]'(by omega), q, by simp [show i < ws.length by omega]⟩, fun _ ⟨ws, q, e⟩ => ⟨ws, q, by omega⟩, fun _ _ _ _ _ _ y => y⟩
theorem wz {p q : Addr} {n m : Nat} : Walk (Itz K p q) (min n m) (fun H => (∃ ws, SqL K H p ws ∧ ws.length = n) ∧ ∃ ws, SqL K H q ws ∧ ws.length = m) (fun i H v H' => ∃ T x y, v = .ref T ∧ H T = none ∧ H' = upd H T (.tup [x, y]) ∧ (∀ ws, SqL K H p ws → ws[i]? = some x) ∧ ∀ ws, SqL K H q ws → ws[i]? = some y) :=
  ⟨fun i _ hi ⟨⟨ws, q, e⟩, us, q', e'⟩ => ⟨ws, us, ws[i]'(by omega), us[i]'(by omega), q, q', by simp [show i < ws.length by omega], by simp [show i < us.length by omega]⟩,
   fun _ ⟨⟨ws, q, e⟩, us, q', e'⟩ => ⟨ws, us, q, q', by omega⟩, fun _ _ _ _ _ _ y => y⟩
theorem wzT {p q : Addr} {n m : Nat} : Walk (RZ.ItzT K p q) (min n m) (fun H => (∃ ws, SqT K H p ws ∧ ws.length = n) ∧ ∃ ws, SqT K H q ws ∧ ws.length = m) (fun i H v H' => ∃ T x y, v = .ref T ∧ H T = none ∧ H' = upd H T (.tup [x, y]) ∧ (∀ ws, SqT K H p ws → ws[i]? = some x) ∧ ∀ ws, SqT K H q ws → ws[i]? = some y) :=
  ⟨fun i _ hi ⟨⟨ws, q, e⟩, us, q', e'⟩ => ⟨ws, us, ws[i]'(by omega), us[i]'(by omega), q, q', by simp [show i < ws.length by omega], by simp [show i < us.length by omega]⟩,
   fun _ ⟨⟨ws, q, e⟩, us, q', e'⟩ => ⟨ws, us, q, q', by omega⟩, fun _ _ _ _ _ _ y => y⟩
theorem get_in {α : Type} {ws : List α} {i n : Nat} (e : ws.length = n) (hi : i < n) : ∃ w, ws[i]? = some w := ⟨ws[i]'(by omega), by simp [show i < ws.length by omega]⟩
theorem SrcAt.walk {s : ASrc} {p : Addr} (S : SrcAt K mg ι H s p) : WlkOk K mg ι H (.one s) (Itl K p) := by
  refine ⟨_, _, wl, fun ι1 h1 H1 e R f => ?_, fun ι1 h1 i H1 x H2 e R f hi y => ?_⟩
  · obtain ⟨ws, k1, k2, _⟩ := S.now e R f
    exact ⟨ws, k1, k2⟩
  · obtain ⟨ws, k1, k2, k3⟩ := S.now e R f
    obtain ⟨rfl, y⟩ := y
    obtain ⟨a, h2, h3⟩ := k3 i x (y ws k1)
    exact ⟨a, h2, .refl, R, h3⟩
theorem pair_new {x y : V} {a b : AV} {T : Addr} (R : Rep K mg ι h H) (hT : H T = none) (r : RV K mg ι H a x) (r' : RV K mg ι H b y) : Ext ι H ι (upd H T (.tup [x, y])) ∧ Rep K mg ι h (upd H T (.tup [x, y])) ∧ RV K mg ι (upd H T (.tup [x, y])) (.tup [a, b]) (.ref T) :=
  ⟨.new hT, R.new hT, .tup (.inl ⟨.inl upd_same, R.out hT⟩) (.cons (r.ext (.new hT)) (.cons (r'.ext (.new hT)) .nil))⟩
theorem SrcAt.walkE {s : ASrc} {p : Addr} (S : SrcAt K mg ι H s p) : WlkOk K mg ι H (.enum s) (Ite K p) := by
  refine ⟨_, _, we, fun ι1 h1 H1 e R f => ?_, fun ι1 h1 i H1 v H2 e R f hi y => ?_⟩
  · obtain ⟨ws, k1, k2, _⟩ := S.now e R f
    exact ⟨ws, k1, k2⟩
  · obtain ⟨ws, k1, k2, k3⟩ := S.now e R f
    obtain ⟨T, x, rfl, hT, rfl, y⟩ := y
    obtain ⟨a, h2, h3⟩ := k3 i x (y ws k1)
    exact ⟨.tup [.int (i : Nat), a], by unfold AIt.get; simp only [h2, Option.map_some], pair_new R hT (.int _) h3⟩
theorem SrcAt.walkZ {s t : ASrc} {p q : Addr} (S : SrcAt K mg ι H s p) (S' : SrcAt K mg ι H t q) : WlkOk K mg ι H (.zip s t) (Itz K p q) := by
  refine ⟨_, _, wz, fun ι1 h1 H1 e R f => ?_, fun ι1 h1 i H1 v H2 e R f hi y => ?_⟩
  · have f := (Bool.and_eq_true _ _ ▸ (show (s.fin h1 && t.fin h1) = true from f))
    obtain ⟨ws, k1, k2, _⟩ := S.now e R f.1
    obtain ⟨us, j1, j2, _⟩ := S'.now e R f.2
    exact ⟨⟨ws, k1, k2⟩, us, j1, j2⟩
  · have f := (Bool.and_eq_true _ _ ▸ (show (s.fin h1 && t.fin h1) = true from f))
    obtain ⟨ws, k1, k2, k3⟩ := S.now e R f.1
    obtain ⟨us, j1, j2, j3⟩ := S'.now e R f.2
    obtain ⟨T, x, z, rfl, hT, rfl, y, y'⟩ := y
    obtain ⟨a, h2, h3⟩ := k3 i x (y ws k1)
    obtain ⟨b, h4, h5⟩ := j3 i z (y' us j1)
    exact ⟨.tup [a, b], by unfold AIt.get; simp only [h2, h4, Option.map_some, Option.bind_some], pair_new R hT h3 h5⟩
theorem walkZT {xs ys : List AV} {ws us : List V} {p q : Addr} (f1 : FzT K ι H p ws) (t1 : RVs K mg ι H xs ws) (f2 : FzT K ι H q us) (t2 : RVs K mg ι H ys us) : WlkOk K mg ι H (.zip (.fix xs) (.fix ys)) (RZ.ItzT K p q) := by
  refine ⟨_, _, wzT, fun ι1 h1 H1 e R f => ⟨⟨ws, (f1.extW e).sq, t1.length.symm⟩, us, (f2.extW e).sq, t2.length.symm⟩, fun ι1 h1 i H1 v H2 e R f hi y => ?_⟩
  obtain ⟨T, x, z, rfl, hT, rfl, y, y'⟩ := y
  obtain ⟨a, h2, h3⟩ := t1.get (y ws (f1.extW e).sq)
  obtain ⟨b, h4, h5⟩ := t2.get (y' us (f2.extW e).sq)
  exact ⟨.tup [a, b], by unfold AIt.get ASrc.get; simp only [h2, h4, Option.map_some, Option.bind_some], pair_new R hT (h3.extW e) (h5.extW e)⟩
theorem walkT {xs : List AV} {ws : List V} {p : Addr} (f1 : FzT K ι H p ws) (t1 : RVs K mg ι H xs ws) : WlkOk K mg ι H (.one (.fix xs)) (Itt K p) := by
  refine ⟨_, _, wt, fun ι1 h1 H1 e R f => ⟨ws, (f1.extW e).sq, t1.length.symm⟩, fun ι1 h1 i H1 v H2 e R f hi y => ?_⟩
  obtain ⟨rfl, y⟩ := y
  obtain ⟨a, h2, h3⟩ := t1.get (y ws (f1.extW e).sq)
  exact ⟨a, h2, .refl, R, h3.extW e⟩
theorem walkS {z : Str} : WlkOk K mg ι H (.one (.fix (z.cps.toList.map fun c => .str ⟨#[c]⟩))) (Its z) := by
  have hl : (AIt.one (.fix (z.cps.toList.map fun c => AV.str ⟨#[c]⟩))).len = z.cps.size := by
    show (z.cps.toList.map fun c => AV.str ⟨#[c]⟩).length = _
    rw [List.length_map, Array.length_toList]
  refine ⟨fun _ => True, fun i H v H' => H' = H ∧ ∃ c, z.cps[i]? = some c ∧ v = .str ⟨#[c]⟩, by rw [hl]; exact walk_str, fun _ _ _ _ _ _ => trivial, fun ι1 h1 i H1 v H2 e R f hi y => ?_⟩
  obtain ⟨rfl, c, hc, rfl⟩ := y
  refine ⟨.str ⟨#[c]⟩, ?_, .refl, R, .str _⟩
  show (z.cps.toList.map fun c => AV.str ⟨#[c]⟩)[i]? = _
  rw [List.getElem?_map, Array.getElem?_toList, hc]
  rfl
theorem walkR {i j : Int} : WlkOk K mg ι H (.one (.fix (rngA i j))) (Itr i (j - i).toNat) := by
  have hl : (AIt.one (.fix (rngA i j))).len = (j - i).toNat := by
    show (rngA i j).length = _
    unfold rngA
    rw [List.length_map, List.length_range]
  refine ⟨fun _ => True, YFn fun k => .int (i + k), by rw [hl]; exact walk_range, fun _ _ _ _ _ _ => trivial, fun ι1 h1 k H1 v H2 e R f hi y => ?_⟩
  obtain ⟨rfl, rfl⟩ := y
  refine ⟨.int (i + k), ?_, .refl, R, .int _⟩
  rw [hl] at hi
  show (rngA i j)[k]? = _
  unfold rngA
  rw [List.getElem?_map, List.getElem?_range hi]
  rfl
end
section
variable {X : Cx} {T : Tb} {C : Ck} {W : WX} {tg : Expr}
theorem i_val {a : IE} {e : Expr} (ha : PE X e (tE X.K X.mg T W a)) : PI X tg e (tI X.K X.mg T W (.val a)) := by
  refine ⟨fun pins s σ H R I q => ?_⟩
  obtain ⟨ι, ρ, h, R0, E, g⟩ := q
  simp only [evI] at g
  refine thn (ha.run pins s σ H (fun x H1 => ∃ ι1 h1 a, Rep X.K X.mg ι1 h1 H1 ∧ RV X.K X.mg ι1 H1 a x ∧ ∃ s, srcA h1 a = some s ∧ ∀ J, WlkOk X.K X.mg ι1 H1 (.one s) J → R J H1) I ⟨ι, ρ, h, R0, E, g.bind fun x h1 ι1 H1 v _ e1 R1 r1 g1 => ?_⟩) fun v s1 ⟨x, H1, I1, rx, ι1, h1, a, R1, ra, s, hs, q⟩ => ?_
  · obtain ⟨t, ht, g2⟩ := g1.pr
    obtain ⟨s, hs, rfl⟩ := Option.map_eq_some_iff.mp ht
    exact ⟨ι1, h1, x, R1, r1, s, hs, fun J w => g2 ι1 H1 J .refl R1 w⟩
  · have goL : srcL h1 a = some s → wpAny (model X.prog X.w) X.A (pyIter v) (PIE X pins σ tg R) X.xe s1 := fun e => by
      obtain ⟨_, p, rfl, S⟩ := srcL_ok R1 ra e
      obtain ⟨ws, k1, _, _⟩ := S.now Ext.refl.w R1 (srcL_ok R1 ra e).1
      cases rx
      obtain ⟨its, rv, pp, hz⟩ := I1.list k1
      exact wpAny_pyIter_list pp.isList (pi_one (tk := s1.toks) I1 _ (turn_list p _) ⟨_, Heap.get?_push_size _ rfl, rfl, rfl⟩ (q _ S.walk))
    cases ra with
    | tup f t =>
      cases hs
      cases rx
      obtain ⟨its, rv, pp, hz⟩ := I1.tuple f.sq
      exact wpAny_pyIter_tuple (show s1.heap.IsTuple _ its.toArray from pp) (pi_one (tk := s1.toks) I1 _ (turn_tuple _ _) ⟨_, Heap.get?_push_size _ rfl, rfl, rfl⟩ (q _ (walkT f t)))
    | str z =>
      cases hs
      obtain ⟨t, rfl⟩ := rx
      cases ha2 : z.cps.all (· < 128) with
      | false => exact wpAny_pyIter_wide ha2 (pi_one (tk := s1.toks) I1 _ (turn_str _ z t "str_iterator" (.inr rfl)) ⟨_, Heap.get?_push_size _ rfl, rfl, rfl⟩ (q _ walkS))
      | true => exact wpAny_pyIter_ascii ha2 (pi_one (tk := s1.toks) I1 _ (turn_str _ z t "str_ascii_iterator" (.inl rfl)) ⟨_, Heap.get?_push_size _ rfl, rfl, rfl⟩ (q _ walkS))
    | _ => exact goL hs
theorem PI.imp' {e : Expr} {t t' : TI} (h : PI X tg e t) (i : ∀ σ H Q, t' σ H Q → t σ H Q) : PI X tg e t' := ⟨fun pins s σ H Q I q => h.run pins s σ H Q I (i σ H Q q)⟩
theorem i_rng1 (c : Cd X T C W) {a : IE} {e : Expr} {p pos : Pos} (hg : glB C.sc "range" = true) (hb : C.bl.contains "range" = true) (hs : noStar e = true) (ha : PE X e (tE X.K X.mg T W a)) : PI X tg (.Call (.Name "range" p) [e] [] pos) (tI X.K X.mg T W (.rng1 a)) := by
  refine PI.imp' (pi_range1 (c.gl hg) (c.bl _ hb) (es_cons hs ha es_nil) (star_of hs)) ?_
  rintro σ H Q ⟨ι, ρ, h, R, E, g⟩
  simp only [evI] at g
  have k : tE X.K X.mg T W a σ H fun x H1 => ∃ j : Int, x = .int j ∧ -(2 ^ 62) ≤ j ∧ j < 2 ^ 62 ∧ Q (Itr 0 j.toNat) H1 := by
    refine ⟨ι, ρ, h, R, E, g.bind fun x h1 ι1 H1 v _ e1 R1 r1 g1 => ?_⟩
    split at g1
    · split at g1
      · rename_i j _ hj
        cases r1
        refine ⟨j, rfl, hj.1, hj.2, ?_⟩
        have := g1.here R1 (walkR (i := 0) (j := j))
        rwa [Int.sub_zero] at this
      · exact g1.elim
    · exact g1.elim
  obtain ⟨ι, ρ, h, R, E, g⟩ := k
  refine ⟨ι, ρ, h, R, E, ?_⟩
  simp only [evEs]
  cases ha' : evE T a ρ h with
  | stuck => rw [ha'] at g; exact g
  | ex _ _ => rw [ha'] at g; exact g
  | ok x h1 =>
    rw [ha'] at g
    intro ι1 H1 b e1 R1 r1
    obtain ⟨v, rfl, rv⟩ := one_of r1
    obtain ⟨j, rfl, q1, q2, q3⟩ := g ι1 H1 v e1 R1 rv
    exact ⟨j, rfl, q1, q2, q3⟩
theorem tEs2 {K : Fg} {mg : Str → Option Value} {a b : IE} {σ : St} {H : Hp} {Q : List V → Hp → Prop} {α β : Type} {S : Mp → Hp → α → β → Prop} {Q' : β → Hp → Prop} {k : AV → AV → AH → Out α} {ι : Mp} {ρ : En} {h : AH} (R : Rep K mg ι h H) (E : REn K mg ι H ρ σ)
    (g : GE K mg S ((evE T a ρ h).bind fun x h => (evE T b ρ h).bind fun y h => k x y h) ι H Q' fun c d H' => W c d σ H')
    (f : ∀ x y h2 ι2 H2 v w, Rep K mg ι2 h2 H2 → RV K mg ι2 H2 x v → RV K mg ι2 H2 y w → GE K mg S (k x y h2) ι2 H2 Q' (fun c d H' => W c d σ H') → Q [v, w] H2) : tEs K mg T W (.cons a (.cons b .nil)) σ H Q := by
  refine ⟨ι, ρ, h, R, E, ?_⟩
  simp only [evEs]
  cases ha' : evE T a ρ h with
  | stuck => rw [ha'] at g; exact g
  | ex _ _ => rw [ha'] at g; exact g
  | ok x h1 =>
    rw [ha'] at g
    simp only [Out.bind_ok] at g ⊢
    cases hb' : evE T b ρ h1 with
    | stuck => rw [hb'] at g; exact g
    | ex _ _ => rw [hb'] at g; exact g
    | ok y h2 =>
      rw [hb'] at g
      intro ι2 H2 vs e2 R2 r2
      obtain ⟨v, w, rfl, rv, rw'⟩ := two_of r2
      exact f x y h2 ι2 H2 v w R2 rv rw' (GE.ext g e2)
theorem tEs1 {K : Fg} {mg : Str → Option Value} {a : IE} {σ : St} {H : Hp} {Q : List V → Hp → Prop} {α β : Type} {S : Mp → Hp → α → β → Prop} {Q' : β → Hp → Prop} {k : AV → AH → Out α} {ι : Mp} {ρ : En} {h : AH} (R : Rep K mg ι h H) (E : REn K mg ι H ρ σ)
    (g : GE K mg S ((evE T a ρ h).bind k) ι H Q' fun c d H' => W c d σ H')
    (f : ∀ x h2 ι2 H2 v, Rep K mg ι2 h2 H2 → RV K mg ι2 H2 x v → GE K mg S (k x h2) ι2 H2 Q' (fun c d H' => W c d σ H') → Q [v] H2) : tEs K mg T W (.cons a .nil) σ H Q := by
  refine ⟨ι, ρ, h, R, E, ?_⟩
  simp only [evEs]
  cases ha' : evE T a ρ h with
  | stuck => rw [ha'] at g; exact g
  | ex _ _ => rw [ha'] at g; exact g
  | ok x h1 =>
    rw [ha'] at g
    intro ι2 H2 vs e2 R2 r2
    obtain ⟨v, rfl, rv⟩ := one_of r2
    exact f x h1 ι2 H2 v R2 rv (GE.ext g e2)
theorem i_rng2 (c : Cd X T C W) {a b : IE} {e e2 : Expr} {p pos : Pos} (hg : glB C.sc "range" = true) (hb : C.bl.contains "range" = true) (hs : noStar e = true) (hs2 : noStar e2 = true) (ha : PE X e (tE X.K X.mg T W a)) (ha2 : PE X e2 (tE X.K X.mg T W b)) :
    PI X tg (.Call (.Name "range" p) [e, e2] [] pos) (tI X.K X.mg T W (.rng2 a b)) := by
  refine PI.imp' (pi_range2 (c.gl hg) (c.bl _ hb) (es_cons hs ha (es_cons hs2 ha2 es_nil)) (by rw [star_of hs, star_of hs2]; rfl) (star_of hs2)) ?_
  rintro σ H Q ⟨ι, ρ, h, R, E, g⟩
  simp only [evI] at g
  refine tEs2 R E g fun x y h2 ι2 H2 v w R2 rv rw' g2 => ?_
  split at g2
  · split at g2
    · rename_i i j hj
      cases rv; cases rw'
      exact ⟨i, j, rfl, hj, g2.here R2 walkR⟩
    · exact g2.elim
  · exact g2.elim
theorem i_enum (c : Cd X T C W) {a : IE} {e : Expr} {p pos tpos : Pos} {elts : List Expr} {kk : Nat} (hg : glB C.sc "enumerate" = true) (hb : C.bl.contains "enumerate" = true) (hs : noStar e = true) (ha : PE X e (tE X.K X.mg T W a)) :
    PI X (.Tuple elts kk tpos) (.Call (.Name "enumerate" p) [e] [] pos) (tI X.K X.mg T W (.enum a)) := by
  refine PI.imp' (pi_enum (c.gl hg) (c.bl _ hb) (es_cons hs ha es_nil) (star_of hs)) ?_
  rintro σ H Q ⟨ι, ρ, h, R, E, g⟩
  simp only [evI] at g
  refine tEs1 R E g fun x h2 ι2 H2 v R2 rv g2 => ?_
  obtain ⟨t, ht, g3⟩ := g2.pr
  obtain ⟨s, hs, rfl⟩ := Option.map_eq_some_iff.mp ht
  obtain ⟨f, q, rfl, S⟩ := srcL_ok R2 rv hs
  obtain ⟨ws, k1, _, _⟩ := S.now Ext.refl.w R2 f
  exact ⟨q, ws, rfl, k1, g3.here R2 S.walkE⟩
theorem i_zip (c : Cd X T C W) {a b : IE} {e e2 : Expr} {p pos tpos : Pos} {elts : List Expr} {kk : Nat} (hg : glB C.sc "zip" = true) (hb : C.bl.contains "zip" = true) (hs : noStar e = true) (hs2 : noStar e2 = true) (ha : PE X e (tE X.K X.mg T W a)) (ha2 : PE X e2 (tE X.K X.mg T W b)) :
    PI X (.Tuple elts kk tpos) (.Call (.Name "zip" p) [e, e2] [] pos) (tI X.K X.mg T W (.zip a b)) := by
  refine PI.imp' (RZ.pi_zipA (c.gl hg) (c.bl _ hb) (es_cons hs ha (es_cons hs2 ha2 es_nil)) (star_of hs) (by rw [star_of hs2]; rfl)) ?_
  rintro σ H Q ⟨ι, ρ, h, R, E, g⟩
  simp only [evI] at g
  refine tEs2 R E g fun x y h2 ι2 H2 v w R2 rv rw' g2 => ?_
  split at g2
  · cases rv with
    | tup f1 t1 =>
      cases rw' with
      | tup f2 t2 => exact ⟨_, _, _, _, rfl, .inr ⟨f1.sq, f2.sq, g2.here R2 (walkZT f1 t1 f2 t2)⟩⟩
  · obtain ⟨t, ht, g3⟩ := g2.pr
    obtain ⟨s, hs, ht⟩ := Option.bind_eq_some_iff.mp ht
    obtain ⟨s', hs', rfl⟩ := Option.map_eq_some_iff.mp ht
    obtain ⟨f, q, rfl, S⟩ := srcL_ok R2 rv hs
    obtain ⟨f', q', rfl, S'⟩ := srcL_ok R2 rw' hs'
    obtain ⟨ws, k1, _, _⟩ := S.now Ext.refl.w R2 f
    obtain ⟨us, k2, _, _⟩ := S'.now Ext.refl.w R2 f'
    exact ⟨_, _, _, _, rfl, .inl ⟨k1, k2, g3.here R2 (S.walkZ S')⟩⟩
end
end Zk
/-! Part 8d: comprehensions; all expressions. -/
namespace Zk
open PySem L2
theorem wipe_get (σ : St) : ∀ (vs : List Nat) (i : Nat), (L2.wipe σ vs)[i]? = if i ∈ vs ∧ i < σ.length then some none else σ[i]?
  | [], i => by simp [L2.wipe]
  | v :: vs, i => by
    have ih := wipe_get σ vs i
    have hl := wipe_length σ vs
    unfold L2.wipe
    by_cases e : v = i
    · subst e
      by_cases hv : v < σ.length
      · rw [List.getElem?_set_self (by rw [hl]; exact hv), if_pos ⟨List.mem_cons_self, hv⟩]
      · rw [List.getElem?_eq_none (by rw [List.length_set, hl]; omega), if_neg (fun z => hv z.2), List.getElem?_eq_none (by omega)]
    · rw [List.getElem?_set_ne e, ih]
      by_cases hm : i ∈ vs
      · simp only [hm, List.mem_cons, or_true, true_and]
      · have h1 : ¬ (i ∈ vs ∧ i < σ.length) := fun z => hm z.1
        have h2 : ¬ (i ∈ v :: vs ∧ i < σ.length) := fun z => (List.mem_cons.mp z.1).elim (fun z => e z.symm) hm
        rw [if_neg h1, if_neg h2]
theorem wipe_eq {σ σ' : St} {vs : List Nat} (hl : σ'.length = σ.length) (h : ∀ i, i ∉ vs → σ'[i]? = (L2.wipe σ vs)[i]?) : L2.wipe σ' vs = L2.wipe σ vs := by
  refine List.ext_getElem? fun i => ?_
  rw [wipe_get, wipe_get, hl]
  by_cases hi : i ∈ vs
  · by_cases h2 : i < σ.length
    · simp only [hi, h2, and_self, if_true]
    · simp only [h2, and_false, if_false]
      rw [List.getElem?_eq_none (by omega), List.getElem?_eq_none (by omega)]
  · have := h i hi
    rw [wipe_get] at this
    simpa only [hi, false_and, if_false] using this
section
variable {X : Cx} {T : Tb} {C : Ck} {W : WX}
/-- what a turn gives -/
def lcF (T : Tb) (own : List Nat) (tg : ITg) (c : IT) (e : IE) (ρ : En) (x : AV) (h : AH) : Out (Option AV) := match asgT tg x (wipeA ρ own) with
  | some ρ => (evT T c ρ h).bind fun k h => if k then (evE T e ρ h).bind fun y h => .ok (some y) h else .ok none h
  | none => .stuck
abbrev W0 : WX := fun _ _ _ _ => False
theorem lc_read {m : Bool} {own : List Nat} {tg : ITg} {it : II} {c : IT} {e : IE} {σ : St} {H : Hp} {Q : VK} (ht : tg.slots.all own.contains = true) (q : tE X.K X.mg T W (.lc m own tg it c e) σ H Q) :
    tLc (tI X.K X.mg T W it) (tG X.K X.mg tg) (tT X.K X.mg T W0 c) (tE X.K X.mg T W0 e) own σ H Q := by
  obtain ⟨ι, ρ, h, R, E, g⟩ := q
  simp only [evE] at g
  refine ⟨ι, ρ, h, R, E, g.bind fun t h1 ι1 H1 J _ e1 R1 w g1 D hD => ?_⟩
  obtain ⟨G, Y, wk, wG, wY⟩ := w
  have E1 := E.ext e1
  split at g1
  · rename_i hz
    change GE X.K X.mg (RVr X.K X.mg) ((lcG t (lcF T own tg c e ρ) t.len 0 [] h1).bind fun ys h => mkL m ys h) ι1 H1 Q _ at g1
    have fin0 : ∀ {k i : Nat} {acc : List AV} {hc : AH}, GE X.K X.mg (RVr X.K X.mg) ((lcG t (lcF T own tg c e ρ) k i acc hc).bind fun ys h => mkL m ys h) ι1 H1 Q (fun c d H' => W c d σ H') → t.fin hc = true := by
      intro k i acc hc g
      cases hf : t.fin hc with
      | true => rfl
      | false =>
        exfalso
        cases k with
        | zero => simp only [lcG, hf] at g; exact g
        | succ k => simp only [lcG, hf] at g; exact g
    have Dn := R1.out hD
    refine lc_it wk (fun i Hc => ∃ ιc hc acc av, Ext ι1 H1 ιc Hc ∧ Rep X.K X.mg (ιc.mk1 D) hc Hc ∧ Hc D = some (.lst av) ∧ RVs X.K X.mg (ιc.mk1 D) Hc acc av ∧ acc.length ≤ i ∧
      GE X.K X.mg (RVr X.K X.mg) ((lcG t (lcF T own tg c e ρ) (t.len - i) i acc hc).bind fun ys h => mkL m ys h) ι1 H1 Q (fun c d H' => W c d σ H')) ?_ ?_ ?_ ?_
    · exact ⟨ι1, h1, [], [], .new hD, R1.aside hD, upd_same, .nil, Nat.le_refl _, g1⟩
    · rintro i Hc hi ⟨ιc, hc, acc, av, ec, Rc, kD, ra, hl, gc⟩
      exact wG ιc hc Hc ec.w Rc.made (fin0 gc)
    · rintro i x Hc H' hi ⟨ιc, hc, acc, av, ec, Rc, kD, ra, hl, gc⟩ y
      have fn := fin0 gc
      obtain ⟨a, k1, k2, k3, k4⟩ := wY (ιc.mk1 D) hc i Hc x H' (ec.mkW hD) Rc fn hi y
      have en : t.len - i = (t.len - (i + 1)) + 1 := by omega
      rw [en] at gc
      simp only [lcG, fn, if_true, k1] at gc
      have E2 : REn X.K X.mg (ιc.mk1 D) H' ρ σ := (E1.extW (ec.mkW hD)).ext k2
      unfold lcF at gc
      cases has : asgT tg a (wipeA ρ own) with
      | none => rw [has] at gc; exact gc.elim
      | some ρ' =>
        rw [has] at gc
        simp only at gc
        refine ⟨ιc.mk1 D, wipeA ρ own, ρ', hc, a, k3, E2.wipe own, k4, has, fun σ2 E3 hlen hsl => ⟨wipe_eq (hlen.trans (wipe_length _ _)) fun j hj => hsl j fun z => hj ?_, ?_⟩⟩
        · have := List.all_eq_true.mp ht j z
          exact List.contains_iff_mem.mp this
        refine ⟨ιc.mk1 D, ρ', hc, k3, E3, ?_⟩
        cases hT : evT T c ρ' hc with
        | stuck => rw [hT] at gc; exact gc.elim
        | ex _ _ => rw [hT] at gc; exact gc.elim
        | ok b h3 =>
          rw [hT] at gc
          simp only [Out.bind_ok] at gc
          intro ι3' H3 b' e3 R3 rb
          have rb : b = b' := rb
          subst rb
          obtain ⟨ι3, rfl, e4⟩ := (k2.trans e3).unmk
          have Rp := (Rc.gl D List.mem_cons_self).2
          have kD3 : H3 D = some (.lst av) := (k2.trans e3).keep _ _ kD Rp
          have ec3 := ec.trans e4
          cases b with
          | false =>
            refine iteF ⟨ι3, h3, acc, av, ec3, R3, kD3, ra.ext (k2.trans e3), Nat.le_succ_of_le hl, ?_⟩
            simp only [Bool.false_eq_true, if_false] at gc
            exact gc
          | true =>
            simp only [if_true] at gc
            refine iteT ⟨ι3.mk1 D, ρ', h3, R3, E3.ext e3, ?_⟩
            cases hE : evE T e ρ' h3 with
            | stuck => rw [hE] at gc; exact gc.elim
            | ex _ _ => rw [hE] at gc; exact gc.elim
            | ok z h4 =>
              rw [hE] at gc
              simp only [Out.bind_ok] at gc
              intro ι4' H4 zv e5 R4 rz
              obtain ⟨ι4, rfl, e6⟩ := e5.unmk
              have kD4 : H4 D = some (.lst av) := e5.keep _ _ kD3 (R3.gl D List.mem_cons_self).2
              have ra4 := (ra.ext (k2.trans e3)).ext e5
              refine ⟨av, kD4, by rw [← ra.length]; omega, ι4, h4, acc ++ [z], av ++ [zv], (ec3.trans e6).set1 hD, R4.chg, upd_same, (ra4.append (.cons rz .nil)).chg, by rw [List.length_append]; show acc.length + 1 ≤ i + 1; omega, gc⟩
    · rintro Hc ⟨ιc, hc, acc, av, ec, Rc, kD, ra, hl, gc⟩
      have fn := fin0 gc
      rw [Nat.sub_self] at gc
      simp only [lcG, fn, if_true, Out.bind_ok] at gc
      have pn : D ∉ ιc.n := (Rc.gl D List.mem_cons_self).2
      have pg : D ∉ ιc.g := by rw [ec.gg]; exact Dn.2
      cases m with
      | false => exact gc ιc _ _ ec Rc.made (.lst (.inl ⟨.inl kD, pn, pg⟩) ra.made)
      | true =>
        refine gc (ιc.num D) _ _ (ec.numD hD) (Rc.numMk pg ⟨_, kD, ra.num⟩) (.ref ?_)
        show (ιc.n ++ [D])[hc.length]? = _
        have : ιc.n.length = hc.length := Rc.len
        rw [← this]; simp
  · exact g1.elim
theorem Cd.blk (c : Cd X T C W) {s : Shared} {H : Hp} {scope : Scope} {Cc : Addr} {cl : List (Str × Addr)} {fp : List Addr} : Cd (X.blk s H scope (compEnvC scope cl Cc X.env) fp) T (C.blk scope) W0 where
  hN := c.hN
  nd := c.nd
  hsc := by show relS scope X.env.scope = relS scope C.sc; rw [c.hsc]
  calm := c.calm
  un := c.un
  gd := c.gd
  tk := fun u s' ⟨a, B, sI, pins, σ, H, cls, d, e, I, nb, up, sky, na, os, ag, w⟩ => w
  con := c.con
  bl := c.bl
  fn := fun x h => h
  fs := c.fs
  fns := c.fns
  iso := c.iso
theorem noSet_of {e : Expr} {env : Env} (h : noSet e = true) : ∀ x, foldedSetIterable e env x = pure x := by
  cases e <;> first
    | exact absurd h Bool.false_ne_true
    | (intro _; rfl)
theorem PTs.imp {ifs : List Expr} {t t' : TT} (h : PTs X ifs t) (i : ∀ σ H Q, t' σ H Q → t σ H Q) : PTs X ifs t' := ⟨fun pins s σ H Q I q => h.run pins s σ H Q I (i σ H Q q)⟩
theorem ifs_ok {c : IT} {ifs : List Expr} (h : ifsB C c ifs = true) (k : ∀ e, chkT C c e = true → PT X e (tT X.K X.mg T W c)) : PTs X ifs (tT X.K X.mg T W c) := by
  match ifs, h with
  | [], h =>
    refine PTs.imp pts_nil ?_
    rintro σ H Q ⟨ι, ρ, h1, R, E, g⟩
    cases c <;> first
      | exact absurd h Bool.false_ne_true
      | exact g.here R rfl
  | [i], h =>
    unfold ifsB at h
    simp only [Bool.and_eq_true] at h
    exact pts_one (k i h.2)
  | _ :: _ :: _, h => exact absurd h Bool.false_ne_true
end
end Zk
/-! Part 8e: all expressions keep their word. -/
namespace Zk
open PySem L2
def IE.isC : IE → Bool
  | .cmp .. | .chn .. => true
  | _ => false
section
variable {C : Ck} {e : Expr}
theorem plain_of {a : IE} (ha : a.isC = false) (h : chkT C (.val a) e = true) : plainT e = true ∧ chkE C a e = true := by
  cases a <;> first
    | exact absurd ha.symm Bool.false_ne_true
    | (unfold chkT at h; rw [Bool.and_eq_true] at h; exact h)
theorem chkT_cmp {op : COp} {a b : IE} (h : chkT C (.val (.cmp op a b)) e = true) : chkE C (.cmp op a b) e = true := by
  cases e with
  | Compare ea os es p =>
    match os, es, h with
    | [o], [eb], h => simp only [chkT] at h; simp only [chkE]; exact h
    | [], _, h => unfold chkT at h; exact absurd h Bool.false_ne_true
    | [_], [], h => unfold chkT at h; exact absurd h Bool.false_ne_true
    | [_], _ :: _ :: _, h => unfold chkT at h; exact absurd h Bool.false_ne_true
    | _ :: _ :: _, _, h => unfold chkT at h; exact absurd h Bool.false_ne_true
  | _ => unfold chkT at h; rw [Bool.and_eq_true] at h; exact h.2
theorem chkT_chn {o1 o2 : COp} {a b d : IE} (h : chkT C (.val (.chn o1 o2 a b d)) e = true) : chkE C (.chn o1 o2 a b d) e = true := by
  cases e with
  | Compare ea os es p =>
    match os, es, h with
    | [p1, p2], [eb, ec], h => simp only [chkT] at h; simp only [chkE]; exact h
    | [], _, h => unfold chkT at h; exact absurd h Bool.false_ne_true
    | [_], _, h => unfold chkT at h; exact absurd h Bool.false_ne_true
    | [_, _], [], h => unfold chkT at h; exact absurd h Bool.false_ne_true
    | [_, _], [_], h => unfold chkT at h; exact absurd h Bool.false_ne_true
    | [_, _], _ :: _ :: _ :: _, h => unfold chkT at h; exact absurd h Bool.false_ne_true
    | _ :: _ :: _ :: _, _, h => unfold chkT at h; exact absurd h Bool.false_ne_true
  | _ => unfold chkT at h; rw [Bool.and_eq_true] at h; exact h.2
theorem chkT_land {a b : IT} (h : chkT C (.land a b) e = true) : ∃ ea eb es p, e = .BoolOp .And (ea :: eb :: es) p ∧ chkT C a ea = true ∧ chkT C b (restB .And eb es p) = true := by
  cases e with
  | BoolOp op es p =>
    match op, es, h with
    | .And, ea :: eb :: es, h =>
      simp only [chkT, Bool.and_eq_true] at h
      exact ⟨_, _, _, _, rfl, h.1, by cases es <;> exact h.2⟩
    | .And, [], h => simp only [chkT] at h; cases h
    | .And, [_], h => simp only [chkT] at h; cases h
    | .Or, _, h => simp only [chkT] at h; cases h
  | _ => simp only [chkT] at h; cases h
theorem chkT_lor {a b : IT} (h : chkT C (.lor a b) e = true) : ∃ ea eb es p, e = .BoolOp .Or (ea :: eb :: es) p ∧ chkT C a ea = true ∧ chkT C b (restB .Or eb es p) = true := by
  cases e with
  | BoolOp op es p =>
    match op, es, h with
    | .Or, ea :: eb :: es, h =>
      simp only [chkT, Bool.and_eq_true] at h
      exact ⟨_, _, _, _, rfl, h.1, by cases es <;> exact h.2⟩
    | .Or, [], h => simp only [chkT] at h; cases h
    | .Or, [_], h => simp only [chkT] at h; cases h
    | .And, _, h => simp only [chkT] at h; cases h
  | _ => simp only [chkT] at h; cases h
theorem chkT_lnot {a : IT} (h : chkT C (.lnot a) e = true) : ∃ ea p, e = .UnaryOp .Not ea p ∧ chkT C a ea = true := by
  cases e with
  | UnaryOp op ea p => cases op <;> first
    | (simp only [chkT] at h; exact ⟨_, _, rfl, h⟩)
    | (simp only [chkT] at h; cases h)
  | _ => simp only [chkT] at h; cases h
theorem chkI_rng1 {a : IE} (h : chkI C (.rng1 a) e = true) : ∃ p ea q, e = .Call (.Name "range" p) [ea] [] q ∧ glB C.sc "range" = true ∧ C.bl.contains "range" = true ∧ noStar ea = true ∧ chkE C a ea = true := by
  unfold chkI at h
  split at h <;> first
    | (rename_i heq; cases heq
       simp only [Bool.and_eq_true, beq_iff_eq] at h
       obtain ⟨⟨⟨⟨h1, h2⟩, h3⟩, h4⟩, h5⟩ := h
       subst h1
       exact ⟨_, _, _, rfl, h2, h3, h4, h5⟩)
    | cases h
    | (rename_i heq; cases heq)
    | skip
theorem chkI_rng2 {a b : IE} (h : chkI C (.rng2 a b) e = true) : ∃ p ea eb q, e = .Call (.Name "range" p) [ea, eb] [] q ∧ glB C.sc "range" = true ∧ C.bl.contains "range" = true ∧ noStar ea = true ∧ noStar eb = true ∧ chkE C a ea = true ∧ chkE C b eb = true := by
  unfold chkI at h
  split at h <;> first
    | (rename_i heq; cases heq
       simp only [Bool.and_eq_true, beq_iff_eq] at h
       obtain ⟨⟨⟨⟨⟨⟨h1, h2⟩, h3⟩, h4⟩, h4b⟩, h5⟩, h6⟩ := h
       subst h1
       exact ⟨_, _, _, _, rfl, h2, h3, h4, h4b, h5, h6⟩)
    | cases h
    | (rename_i heq; cases heq)
    | skip
theorem chkI_enum {a : IE} (h : chkI C (.enum a) e = true) : ∃ p ea q, e = .Call (.Name "enumerate" p) [ea] [] q ∧ glB C.sc "enumerate" = true ∧ C.bl.contains "enumerate" = true ∧ noStar ea = true ∧ chkE C a ea = true := by
  unfold chkI at h
  split at h <;> first
    | (rename_i heq; cases heq
       simp only [Bool.and_eq_true, beq_iff_eq] at h
       obtain ⟨⟨⟨⟨h1, h2⟩, h3⟩, h4⟩, h5⟩ := h
       subst h1
       exact ⟨_, _, _, rfl, h2, h3, h4, h5⟩)
    | cases h
    | (rename_i heq; cases heq)
    | skip
theorem chkI_zip {a b : IE} (h : chkI C (.zip a b) e = true) : ∃ p ea eb q, e = .Call (.Name "zip" p) [ea, eb] [] q ∧ glB C.sc "zip" = true ∧ C.bl.contains "zip" = true ∧ noStar ea = true ∧ noStar eb = true ∧ chkE C a ea = true ∧ chkE C b eb = true := by
  unfold chkI at h
  split at h <;> first
    | (rename_i heq; cases heq
       simp only [Bool.and_eq_true, beq_iff_eq] at h
       obtain ⟨⟨⟨⟨⟨⟨h1, h2⟩, h3⟩, h4⟩, h4b⟩, h5⟩, h6⟩ := h
       subst h1
       exact ⟨_, _, _, _, rfl, h2, h3, h4, h4b, h5, h6⟩)
    | cases h
    | (rename_i heq; cases heq)
    | skip
theorem chkI_val {a : IE} (h : chkI C (.val a) e = true) : chkE C a e = true := by
  unfold chkI at h
  exact h
end
section
variable {X : Cx} {T : Tb} {C : Ck} {W : WX}
/-- a test; an and, an or goes on whatever the whole is -/
def PTW (X : Cx) (e : Expr) (t : TT) : Prop := PT X e t ∧ ((∃ op es p, e = .BoolOp op es p) → PW X e t)
theorem PTW.rest {op : BoolOp} {e : Expr} {es : List Expr} {p : Pos} {t : TT} (h : PTW X (restB op e es p) t) : PW X (.BoolOp op (e :: es) p) t := by
  cases es with
  | nil => cases op with
    | And => exact pw_and1 h.1
    | Or => exact pw_or1 h.1
  | cons _ _ => exact h.2 ⟨_, _, _, rfl⟩
theorem PW.both {e : Expr} {t t' : TT} (h : PW X e t) (i : ∀ σ H Q, t' σ H Q → t σ H Q) : PTW X e t' :=
  ⟨⟨fun pins s σ H Q I q => h.run _ pins s σ H Q I (i σ H Q q)⟩, fun _ => ⟨fun wh pins s σ H Q I q => h.run wh pins s σ H Q I (i σ H Q q)⟩⟩
theorem t_land {a b : IT} {ea eb : Expr} {es : List Expr} {p : Pos} (ha : PT X ea (tT X.K X.mg T W a)) (hb : PTW X (restB .And eb es p) (tT X.K X.mg T W b)) : PTW X (.BoolOp .And (ea :: eb :: es) p) (tT X.K X.mg T W (.land a b)) := by
  refine PW.both (pw_and ha hb.rest) ?_
  rintro σ H Q ⟨ι, ρ, h, R, E, g⟩
  simp only [evT] at g
  refine ⟨ι, ρ, h, R, E, g.bind fun x h1 ι1 H1 v _ e1 R1 r1 g1 => ?_⟩
  have r1 : x = v := r1
  subst r1
  cases x with
  | true => exact iteT ⟨ι1, ρ, h1, R1, E.ext e1, g1⟩
  | false => exact iteF (g1.here R1 rfl)
theorem t_lor {a b : IT} {ea eb : Expr} {es : List Expr} {p : Pos} (ha : PT X ea (tT X.K X.mg T W a)) (hb : PTW X (restB .Or eb es p) (tT X.K X.mg T W b)) : PTW X (.BoolOp .Or (ea :: eb :: es) p) (tT X.K X.mg T W (.lor a b)) := by
  refine PW.both (pw_or ha hb.rest) ?_
  rintro σ H Q ⟨ι, ρ, h, R, E, g⟩
  simp only [evT] at g
  refine ⟨ι, ρ, h, R, E, g.bind fun x h1 ι1 H1 v _ e1 R1 r1 g1 => ?_⟩
  have r1 : x = v := r1
  subst r1
  cases x with
  | true => exact iteT (g1.here R1 rfl)
  | false => exact iteF ⟨ι1, ρ, h1, R1, E.ext e1, g1⟩
theorem t_lnot {a : IT} {ea : Expr} {p : Pos} (ha : PT X ea (tT X.K X.mg T W a)) : PT X (.UnaryOp .Not ea p) (tT X.K X.mg T W (.lnot a)) := by
  refine PT.imp (pt_not ha) ?_
  rintro σ H Q ⟨ι, ρ, h, R, E, g⟩
  simp only [evT] at g
  refine ⟨ι, ρ, h, R, E, g.bind fun x h1 ι1 H1 v _ e1 R1 r1 g1 => ?_⟩
  have r1 : x = v := r1
  subst r1
  exact g1.here R1 rfl
theorem noBool {e : Expr} {t : TT} (h : PT X e t) (n : ∀ op es p, e ≠ .BoolOp op es p) : PTW X e t := ⟨h, fun ⟨op, es, p, q⟩ => absurd q (n op es p)⟩
theorem plain_noBool {e : Expr} (h : plainT e = true) : ∀ op es p, e ≠ .BoolOp op es p := by
  rintro op es p rfl
  exact absurd h Bool.false_ne_true
theorem tt_no {e : Expr} : chkT C .tt e = true → False := by
  intro h
  unfold chkT at h
  exact absurd h Bool.false_ne_true
/-- a value, and as a test -/
def PB (X : Cx) (T : Tb) (C : Ck) (W : WX) (a : IE) : Prop := ∀ e, (chkE C a e = true → PE X e (tE X.K X.mg T W a)) ∧ (chkT C (.val a) e = true → PTW X e (tT X.K X.mg T W (.val a)))
theorem PB.of {a : IE} (ha : a.isC = false) (h : ∀ e, chkE C a e = true → PE X e (tE X.K X.mg T W a)) : PB X T C W a := fun e => ⟨h e, fun k => by
  obtain ⟨k1, k2⟩ := plain_of ha k
  exact noBool (t_val k1 (h e k2)) (plain_noBool k1)⟩
theorem chkG_pair {tg : ITg} {et : Expr} (h : tg.isTp = true) (k : chkG C tg et = true) : ∃ es k p, et = .Tuple es k p := by
  cases tg with
  | nm i => exact absurd h Bool.false_ne_true
  | tp ts =>
    obtain ⟨es, j, p, rfl, _⟩ := chkG_tp k
    exact ⟨es, j, p, rfl⟩
theorem ownOf_snd {N : List Str} {own : List Nat} : (ownOf N own).map (·.2) = own := by
  unfold ownOf
  rw [List.map_map]
  exact List.map_id' own
theorem pks_nil {kws : List Keyword} (h : chkEs C .nil (kws.map (·.value)) = true) : PK X kws (tEs X.K X.mg T W .nil) := by
  cases kws with
  | cons _ _ => rw [List.map_cons] at h; unfold chkEs at h; exact absurd h Bool.false_ne_true
  | nil =>
    refine ⟨fun pos pins s σ H Q I ⟨ι, ρ, h, R, E, g⟩ => pk_nil.run pos pins s σ H Q I ?_⟩
    simp only [evEs] at g
    exact g.here R .nil
theorem pks_cons {a : IE} {as : IEs} {k : Keyword} {kws : List Keyword} (ha : PE X k.value (tE X.K X.mg T W a)) (hr : PK X kws (tEs X.K X.mg T W as)) : PK X (k :: kws) (tEs X.K X.mg T W (.cons a as)) := by
  obtain ⟨n, e, kp⟩ := k
  have k := pk_cons (nm := n) (kpos := kp) ha hr
  refine ⟨fun pos pins s σ H Q I q => k.run pos pins s σ H Q I ?_⟩
  obtain ⟨ι, ρ, h, R, E, g⟩ := q
  simp only [evEs] at g
  exact ⟨ι, ρ, h, R, E, g.bind fun x h1 ι1 H1 v _ e1 R1 r1 g1 => ⟨ι1, ρ, h1, R1, E.ext e1, g1.bind fun xs h2 ι2 H2 vs _ e2 R2 r2 g2 => g2.here R2 (.cons (r1.ext e2) r2)⟩⟩
mutual
theorem sE : ∀ (a : IE) {X : Cx} {T : Tb} {C : Ck} {W : WX}, Cd X T C W → PB X T C W a
  | .var i, _, _, _, _, c => PB.of rfl fun e h => e_var c h
  | .cst v, _, _, _, _, c => PB.of rfl fun e h => e_cst c h
  | .con y, _, _, _, _, c => PB.of rfl fun e h => e_con c h
  | .bin op a b, _, _, _, _, c => PB.of rfl fun e h => by
    obtain ⟨ea, o, eb, p, rfl, h1, h2, h3⟩ := chk_bin h
    have := bop_of h1
    subst this
    exact e_bin c ((sE a c ea).1 h2) ((sE b c eb).1 h3)
  | .cmp op a b, _, _, _, _, c => fun e => by
    refine ⟨fun h => ?_, fun h => ?_⟩
    · obtain ⟨ea, o, eb, p, rfl, h1, h2, h3, h4⟩ := chk_cmp h
      have := cop_of h1
      subst this
      exact e_cmp c h2 ((sE a c ea).1 h3) ((sE b c eb).1 h4)
    · obtain ⟨ea, o, eb, p, rfl, h1, h2, h3, h4⟩ := chk_cmp (chkT_cmp h)
      have := cop_of h1
      subst this
      exact noBool (t_cmp c h2 ((sE a c ea).1 h3) ((sE b c eb).1 h4)) fun _ _ _ q => nomatch q
  | .chn o1 o2 a b d, _, _, _, _, c => fun e => by
    refine ⟨fun h => ?_, fun h => ?_⟩
    · obtain ⟨ea, p1, p2, eb, ec, p, rfl, h1, h2, h3, h4, h5, h6⟩ := chk_chn h
      have := cop_of h1
      subst this
      have := cop_of h2
      subst this
      exact e_chn c h3 ((sE a c ea).1 h4) ((sE b c eb).1 h5) ((sE d c ec).1 h6)
    · obtain ⟨ea, p1, p2, eb, ec, p, rfl, h1, h2, h3, h4, h5, h6⟩ := chk_chn (chkT_chn h)
      have := cop_of h1
      subst this
      have := cop_of h2
      subst this
      exact noBool (t_chn c h3 ((sE a c ea).1 h4) ((sE b c eb).1 h5) ((sE d c ec).1 h6)) fun _ _ _ q => nomatch q
  | .land a b, _, _, _, _, c => PB.of rfl fun e h => by
    obtain ⟨ea, eb, es, p, rfl, h1, h2⟩ := chk_land h
    exact e_land ((sE a c ea).1 h1) ((sE b c _).1 h2)
  | .lor a b, _, _, _, _, c => PB.of rfl fun e h => by
    obtain ⟨ea, eb, es, p, rfl, h1, h2⟩ := chk_lor h
    exact e_lor ((sE a c ea).1 h1) ((sE b c _).1 h2)
  | .lnot a, _, _, _, _, c => PB.of rfl fun e h => by
    obtain ⟨ea, p, rfl, h1⟩ := chk_lnot h
    exact e_lnot ((sE a c ea).1 h1)
  | .neg a, _, _, _, _, c => PB.of rfl fun e h => by
    obtain ⟨ea, p, rfl, h1⟩ := chk_neg h
    exact e_neg ((sE a c ea).1 h1)
  | .ite t a b, _, _, _, _, c => PB.of rfl fun e h => by
    obtain ⟨ec, ea, eb, p, rfl, h1, h2, h3⟩ := chk_ite h
    exact e_ite (sT t c ec h1).1 ((sE a c ea).1 h2) ((sE b c eb).1 h3)
  | .tup es, _, _, _, _, c => PB.of rfl fun e h => by
    obtain ⟨xs, k, p, rfl, h1, h2⟩ := chk_tup h
    exact e_tup (by rw [chkEs_len h1]; exact h2) (sEs es c xs h1)
  | .lst m es, _, _, _, _, c => PB.of rfl fun e h => by
    obtain ⟨xs, p, rfl, h1, h2⟩ := chk_lst h
    exact e_lst (by rw [chkEs_len h1]; exact h2) (sEs es c xs h1)
  | .dct m ps, _, _, _, _, c => PB.of rfl fun e h => by
    obtain ⟨ks, vs, p, rfl, h1, h2, h3⟩ := chk_dct h
    obtain ⟨k1, k2, k3⟩ := sP ps c ks vs p h1
    exact e_dct k1 k2 k3 h2 h3
  | .idx a b, _, _, _, _, c => PB.of rfl fun e h => by
    obtain ⟨ea, eb, p, rfl, h1, h2, h3⟩ := chk_idx h
    exact e_idx c h1 ((sE a c ea).1 h2) ((sE b c eb).1 h3)
  | .slc a lo hi, _, _, _, _, c => PB.of rfl fun e h => by
    obtain ⟨ea, el, eh, p, p2, rfl, h1, h2, h3⟩ := chk_slc h
    exact e_slc ((sE a c ea).1 h1) h2 h3 (fun e k => (sE lo c e).1 k) (fun e k => (sE hi c e).1 k)
  | .nop, _, _, _, _, c => PB.of rfl fun e h => by
    unfold chkE at h
    exact absurd h Bool.false_ne_true
  | .call f es, _, _, _, _, c => PB.of rfl fun e h => by
    obtain ⟨p, xs, q, rfl, h1, h2, h3, h5⟩ := chk_call h
    exact e_call c h1 h2 h3 h5 (sEs es c xs h5)
  | .calk f es ks vs, _, _, _, _, c => PB.of rfl fun e h => by
    obtain ⟨p, xs, kws, q, rfl, h1, h2, h3, h4, h5, h6, h7⟩ := chk_calk h
    exact e_calk c h1 h2 h3 h5 h7 (sEs es c xs h5) (sKs vs c kws h6)
  | .bi b es, _, _, _, _, c => PB.of rfl fun e h => by
    obtain ⟨p, xs, q, rfl, h1, h2, h3, h4⟩ := chk_bi h
    exact e_bi c h1 h2 h3 h4 (sEs es c xs h4)
  | .bm m o es, _, _, _, _, c => PB.of rfl fun e h => by
    obtain ⟨eo, ap, xs, cp, rfl, h1, h2, h3, h4, h5⟩ := chk_bm h
    exact e_bm c h1 h4 h5 h3 ((sE o c eo).1 h2) (sEs es c xs h3)
  | .lc m own tg it t a, X, T, C, W, c => PB.of rfl fun e h => by
    obtain ⟨elt, et, ei, ifs, scope, p, rfl, h1, h2, h3, h4, h5, h6, h7, h8⟩ := chk_lc h
    have ok : BlkOk X.N X.env.scope scope (ownOf C.N own) := by rw [c.hN, c.hsc]; exact blkOk_by h1
    have L := pe_lc (pos := p) (elt := elt) (g := tG X.K X.mg tg) (tt := tT X.K X.mg T W0 t) (te := tE X.K X.mg T W0 a) c.calm c.nd (sI it c ei et h3 fun z => chkG_pair (h4 z) h6) ok (fun s H Cc cl fp => sG (c.blk (s := s) (H := H) (Cc := Cc) (cl := cl) (fp := fp)) tg et h6)
      (fun s H Cc cl fp => ifs_ok h7 fun i hi => (sT t (c.blk (s := s) (H := H) (Cc := Cc) (cl := cl) (fp := fp)) i hi).1)
      (fun s H Cc cl fp => (sE a (c.blk (s := s) (H := H) (Cc := Cc) (cl := cl) (fp := fp)) elt).1 h8) (noSet_of h5)
    refine PE.imp L fun σ H Q q => ?_
    have := lc_read h2 q
    rw [ownOf_snd]
    exact this
theorem sEs : ∀ (es : IEs) {X : Cx} {T : Tb} {C : Ck} {W : WX}, Cd X T C W → ∀ xs, chkEs C es xs = true → PA X xs (tEs X.K X.mg T W es)
  | .nil, _, _, _, _, c, xs, h => by
    cases xs with
    | nil => exact es_nil
    | cons _ _ => unfold chkEs at h; exact absurd h Bool.false_ne_true
  | .cons a as, _, _, _, _, c, xs, h => by
    cases xs with
    | nil => unfold chkEs at h; exact absurd h Bool.false_ne_true
    | cons x xs =>
      simp only [chkEs, Bool.and_eq_true] at h
      exact es_cons h.1.1 ((sE a c x).1 h.1.2) (sEs as c xs h.2)
theorem sKs : ∀ (es : IEs) {X : Cx} {T : Tb} {C : Ck} {W : WX}, Cd X T C W → ∀ kws : List Keyword, chkEs C es (kws.map (·.value)) = true → PK X kws (tEs X.K X.mg T W es)
  | .nil, _, _, _, _, c, kws, h => pks_nil h
  | .cons a as, _, _, _, _, c, kws, h => by
    cases kws with
    | nil => simp only [List.map_nil] at h; unfold chkEs at h; exact absurd h Bool.false_ne_true
    | cons k kws =>
      simp only [List.map_cons, chkEs, Bool.and_eq_true] at h
      exact pks_cons ((sE a c _).1 h.1.2) (sKs as c kws h.2)
theorem sP : ∀ (ps : IPs) {X : Cx} {T : Tb} {C : Ck} {W : WX}, Cd X T C W → ∀ ks vs pos, chkP C ps ks vs = true → PPs X pos ks vs (trsP X.K X.mg T W ps) ∧ ks.all (·.isSome) = true ∧ ks.length = vs.length
  | .nil, _, _, _, _, c, ks, vs, pos, h => by
    match ks, vs, h with
    | [], [], _ => exact ⟨pps_nil, rfl, rfl⟩
    | [], _ :: _, h => unfold chkP at h; exact absurd h Bool.false_ne_true
    | _ :: _, _, h => unfold chkP at h; exact absurd h Bool.false_ne_true
  | .cons k v ps, _, _, _, _, c, ks, vs, pos, h => by
    match ks, vs, h with
    | some ek :: ks, ev :: vs, h =>
      simp only [chkP, Bool.and_eq_true] at h
      obtain ⟨h1, h2, h3⟩ := sP ps c ks vs pos h.2
      exact ⟨pps_cons ((sE k c ek).1 h.1.1) ((sE v c ev).1 h.1.2) h1, by rw [List.all_cons, h2]; rfl, congrArg (· + 1) h3⟩
    | [], _, h => unfold chkP at h; exact absurd h Bool.false_ne_true
    | none :: _, _, h => unfold chkP at h; exact absurd h Bool.false_ne_true
    | some _ :: _, [], h => unfold chkP at h; exact absurd h Bool.false_ne_true
theorem sT : ∀ (t : IT) {X : Cx} {T : Tb} {C : Ck} {W : WX}, Cd X T C W → ∀ e, chkT C t e = true → PTW X e (tT X.K X.mg T W t)
  | .tt, _, _, _, _, c, e, h => (tt_no h).elim
  | .val a, _, _, _, _, c, e, h => (sE a c e).2 h
  | .land a b, _, _, _, _, c, e, h => by
    obtain ⟨ea, eb, es, p, rfl, h1, h2⟩ := chkT_land h
    exact t_land (sT a c ea h1).1 (sT b c _ h2)
  | .lor a b, _, _, _, _, c, e, h => by
    obtain ⟨ea, eb, es, p, rfl, h1, h2⟩ := chkT_lor h
    exact t_lor (sT a c ea h1).1 (sT b c _ h2)
  | .lnot a, _, _, _, _, c, e, h => by
    obtain ⟨ea, p, rfl, h1⟩ := chkT_lnot h
    exact noBool (t_lnot (sT a c ea h1).1) fun _ _ _ q => nomatch q
theorem sI : ∀ (it : II) {X : Cx} {T : Tb} {C : Ck} {W : WX}, Cd X T C W → ∀ e tg, chkI C it e = true → (it.pair = true → ∃ es k p, tg = .Tuple es k p) → PI X tg e (tI X.K X.mg T W it)
  | .val a, _, _, _, _, c, e, tg, h, _ => i_val ((sE a c e).1 (chkI_val h))
  | .rng1 a, _, _, _, _, c, e, tg, h, _ => by
    obtain ⟨p, ea, q, rfl, h1, h2, h3, h4⟩ := chkI_rng1 h
    exact i_rng1 c h1 h2 h3 ((sE a c ea).1 h4)
  | .rng2 a b, _, _, _, _, c, e, tg, h, _ => by
    obtain ⟨p, ea, eb, q, rfl, h1, h2, h3, h4, h5, h6⟩ := chkI_rng2 h
    exact i_rng2 c h1 h2 h3 h4 ((sE a c ea).1 h5) ((sE b c eb).1 h6)
  | .enum a, _, _, _, _, c, e, tg, h, hp => by
    obtain ⟨p, ea, q, rfl, h1, h2, h3, h4⟩ := chkI_enum h
    obtain ⟨es, k, tp, rfl⟩ := hp rfl
    exact i_enum c h1 h2 h3 ((sE a c ea).1 h4)
  | .zip a b, _, _, _, _, c, e, tg, h, hp => by
    obtain ⟨p, ea, eb, q, rfl, h1, h2, h3, h4, h5, h6⟩ := chkI_zip h
    obtain ⟨es, k, tp, rfl⟩ := hp rfl
    exact i_zip c h1 h2 h3 h4 ((sE a c ea).1 h5) ((sE b c eb).1 h6)
end
end
end Zk
/-! Part 9: statements. -/
namespace Zk
open PySem L2
/-- how a statement ends -/
inductive SOut where
  | stuck
  | nx (ρ : En) (h : AH)
  | rt (v : AV) (h : AH)
  | bk (ρ : En) (h : AH)
  | ct (ρ : En) (h : AH)
  | ex (e : AEx) (ρ : En) (h : AH)
/-- what is done goes on -/
def SOut.seq (o : SOut) (f : En → AH → SOut) : SOut := match o with
  | .nx ρ h => f ρ h
  | o => o
@[simp] theorem SOut.seq_nx (ρ : En) (h : AH) (f : En → AH → SOut) : (SOut.nx ρ h).seq f = f ρ h := rfl
@[simp] theorem SOut.seq_rt (v : AV) (h : AH) (f : En → AH → SOut) : (SOut.rt v h).seq f = .rt v h := rfl
@[simp] theorem SOut.seq_bk (ρ : En) (h : AH) (f : En → AH → SOut) : (SOut.bk ρ h).seq f = .bk ρ h := rfl
@[simp] theorem SOut.seq_ct (ρ : En) (h : AH) (f : En → AH → SOut) : (SOut.ct ρ h).seq f = .ct ρ h := rfl
@[simp] theorem SOut.seq_ex (e : AEx) (ρ : En) (h : AH) (f : En → AH → SOut) : (SOut.ex e ρ h).seq f = .ex e ρ h := rfl
@[simp] theorem SOut.seq_stuck (f : En → AH → SOut) : SOut.stuck.seq f = .stuck := rfl
/-- an expression within a statement -/
def Out.go {α : Type} (o : Out α) (ρ : En) (f : α → AH → SOut) : SOut := match o with
  | .stuck => .stuck
  | .ok a h => f a h
  | .ex e h => .ex e ρ h
@[simp] theorem Out.go_ok {α : Type} (a : α) (h : AH) (ρ : En) (f : α → AH → SOut) : (Out.ok a h).go ρ f = f a h := rfl
@[simp] theorem Out.go_stuck {α : Type} (ρ : En) (f : α → AH → SOut) : (Out.stuck : Out α).go ρ f = .stuck := rfl
@[simp] theorem Out.go_ex {α : Type} (e : AEx) (h : AH) (ρ : En) (f : α → AH → SOut) : (Out.ex e h : Out α).go ρ f = .ex e ρ h := rfl
mutual
inductive SG where
  | nm (i : Nat)
  | tp (ts : SGs)
  | sub (o k : IE)
inductive SGs where
  | nil
  | cons (t : SG) (ts : SGs)
end
mutual
inductive IS where
  | expr (e : IE)
  | asg (t : SG) (e : IE)
  | asgL (i : Nat) (e : IE)
  | par (i j : Nat) (es : IEs)
  | ret (e : IE)
  | retN
  | ifS (t : IT) (a b : ISs)
  | forS (tg : ITg) (it : II) (b : ISs)
  | whl (t : IT) (b : ISs)
  | brk
  | cont
  | pass
inductive ISs where
  | nil
  | cons (s : IS) (ss : ISs)
end
def putD (k : Key) (x : AV) (ks : List Key) (vs : List AV) : AObj := if hasK k ks then .dct ks (putKey k x ks vs) else .dct (ks ++ [k]) (vs ++ [x])
/-- o[k] = v -/
def setS (h : AH) (o k v : AV) : Option AH := match o with
  | .ref r => match h[r]? with
    | some (.lst xs) => (intO k).bind fun i => (ixN xs.length i).map fun j => h.set r (.lst (xs.set j v))
    | some (.dct ks vs) => (keyA k).bind fun k => if ks.length < sizeLine then some (h.set r (putD k v ks vs)) else none
    | _ => none
  | _ => none
def prH (o : Option AH) (ρ : En) : Out En := match o with
  | some h => .ok ρ h
  | none => .stuck
def SG.isTp : SG → Bool
  | .tp _ => true
  | _ => false
mutual
def evG (T : Tb) : SG → AV → En → AH → Out En
  | .nm i, v, ρ, h => if i < ρ.length then .ok (ρ.set i (some v)) h else .stuck
  | .tp ts, .tup xs, ρ, h => evGs T ts xs ρ h
  | .tp _, _, _, _ => .stuck
  | .sub o k, v, ρ, h => (evE T o ρ h).bind fun x h => (evE T k ρ h).bind fun y h => prH (setS h x y v) ρ
def evGs (T : Tb) : SGs → List AV → En → AH → Out En
  | .nil, [], ρ, h => .ok ρ h
  | .cons t ts, x :: xs, ρ, h => match evG T t x ρ h with
    | .ok ρ h => evGs T ts xs ρ h
    | _ => .stuck
  | _, _, _, _ => .stuck
end
def whG (t : En → AH → Out Bool) (b : En → AH → SOut) : Nat → En → AH → SOut
  | 0, _, _ => .stuck
  | n + 1, ρ, h => (t ρ h).go ρ fun k h => if k then match b ρ h with
      | .nx ρ h => whG t b n ρ h
      | .ct ρ h => whG t b n ρ h
      | .bk ρ h => .nx ρ h
      | o => o
    else .nx ρ h
def forG (it : AIt) (tg : ITg) (b : En → AH → SOut) : Nat → Nat → En → AH → SOut
  | 0, _, ρ, h => if it.fin h then .nx ρ h else .stuck
  | k + 1, i, ρ, h => if it.fin h then match it.get h i with
      | some x => match asgT tg x ρ with
        | some ρ => match b ρ h with
          | .nx ρ h => forG it tg b k (i + 1) ρ h
          | .ct ρ h => forG it tg b k (i + 1) ρ h
          | .bk ρ h => .nx ρ h
          | o => o
        | none => .stuck
      | none => .stuck
    else .stuck
mutual
def exS (T : Tb) : IS → En → AH → SOut
  | .expr e, ρ, h => (evE T e ρ h).go ρ fun _ h => .nx ρ h
  | .asg t e, ρ, h => (evE T e ρ h).go ρ fun v h => match evG T t v ρ h with
    | .ok ρ h => .nx ρ h
    | _ => .stuck
  | .asgL i e, ρ, h => (evE T e ρ h).go ρ fun v h => if i < ρ.length then .nx (ρ.set i (some v)) h else .stuck
  | .par i j es, ρ, h => (evEs T es ρ h).go ρ fun vs h => match vs with
    | [v, w] => .nx ((ρ.set i (some v)).set j (some w)) h
    | _ => .stuck
  | .ret e, ρ, h => (evE T e ρ h).go ρ fun v h => .rt v h
  | .retN, _, h => .rt .non h
  | .ifS t a b, ρ, h => (evT T t ρ h).go ρ fun k h => if k then exSs T a ρ h else exSs T b ρ h
  | .forS tg it b, ρ, h => (evI T it ρ h).go ρ fun t h => forG t tg (fun ρ h => exSs T b ρ h) t.len 0 ρ h
  | .whl t b, ρ, h => whG (fun ρ h => evT T t ρ h) (fun ρ h => exSs T b ρ h) T.fu ρ h
  | .brk, ρ, h => .bk ρ h
  | .cont, ρ, h => .ct ρ h
  | .pass, ρ, h => .nx ρ h
def exSs (T : Tb) : ISs → En → AH → SOut
  | .nil, ρ, h => .nx ρ h
  | .cons s ss, ρ, h => (exS T s ρ h).seq fun ρ h => exSs T ss ρ h
end
def isFn (sc : Scope) : Bool := match sc.kind with
  | .function => true
  | _ => false
/-- no comprehension -/
def noComp : Expr → Bool
  | .ListComp .. | .SetComp .. | .DictComp .. => false
  | _ => true
/-- no pair of displays that would be stored from the right -/
def noSw (t e : Expr) : Bool := match t, e with
  | .Tuple ts _ _, .Tuple vs _ _ => !(ts.length == 2 || ts.length == 3) || ts.any (fun | .Name .. => false | _ => true) || vs.all (foldedForSure 8)
  | .List .., _ => false
  | _, _ => true
mutual
def chkSG (C : Ck) : SG → Expr → Bool
  | .nm i, .Name x _ => C.N[i]? == some x && locB C.sc x && (C.fnB x || C.sc.names.lookup x == some .local)
  | .tp ts, .Tuple es _ _ => chkSGs C ts es
  | .sub o k, .Subscript eo ek _ => noSlice ek && chkE C o eo && chkE C k ek
  | _, _ => false
def chkSGs (C : Ck) : SGs → List Expr → Bool
  | .nil, [] => true
  | .cons t ts, e :: es => noStar e && chkSG C t e && chkSGs C ts es
  | _, _ => false
end
mutual
def chkS (C : Ck) : IS → Stmt → Bool
  | .expr e, .Expr x _ => noComp x && chkE C e x
  | .asg t e, .Assign [tg] x _ => noComp x && noSw tg x && chkSG C t tg && chkE C e x
  | .asgL i (.lc m own tg it c e), .Assign [.Name y py] (.ListComp elt gs scope p) _ => C.N[i]? == some y && C.sc.names.lookup y == some .local && py.line == p.line && !(scope.names.any fun q => q.1 == y && (q.2 == .local || q.2 == .cell)) && chkE C (.lc m own tg it c e) (.ListComp elt gs scope p)
  | .par i j es, .Assign [.Tuple [.Name x px, .Name y py] _ _] (.Tuple [a, b] _ _) _ => C.N[i]? == some x && C.N[j]? == some y && !(x == y) && C.sc.names.lookup x == some .local && C.sc.names.lookup y == some .local && py.line == px.line && !([a, b].all (foldedForSure 8)) && !([a, b].all (constantsAlone 8)) && chkEs C es [a, b]
  | .ret e, .Return (some x) _ => chkE C e x
  | .retN, .Return none _ => true
  | .ifS t a b, .If c p q _ => chkT C t c && chkSs C a p && chkSs C b q
  | .forS tg it b, .For t x body [] _ => chkI C it x && (!it.pair || tg.isTp) && noSet x && chkG C tg t && chkSs C b body
  | .whl t b, .While c body [] _ => chkT C t c && chkSs C b body
  | .brk, .Break _ => true
  | .cont, .Continue _ => true
  | .pass, .Pass _ => true
  | _, _ => false
def chkSs (C : Ck) : ISs → List Stmt → Bool
  | .nil, [] => true
  | .cons s ss, x :: xs => chkS C s x && chkSs C ss xs
  | _, _ => false
end
end Zk
/-! Part 9b: statements keep their word. -/
namespace Zk
open PySem L2
section
variable (K : Fg) (mg : Str → Option Value)
/-- a good end of a statement -/
def GS (o : SOut) (ι : Mp) (H : Hp) (D : Ends) (W : WX) : Prop := match o with
  | .stuck => False
  | .nx ρ h => ∀ ι' H' σ', Ext ι H ι' H' → Rep K mg ι' h H' → REn K mg ι' H' ρ σ' → D.nx σ' H'
  | .bk ρ h => ∀ ι' H' σ', Ext ι H ι' H' → Rep K mg ι' h H' → REn K mg ι' H' ρ σ' → D.bk σ' H'
  | .ct ρ h => ∀ ι' H' σ', Ext ι H ι' H' → Rep K mg ι' h H' → REn K mg ι' H' ρ σ' → D.ct σ' H'
  | .rt v h => ∀ ι' H' x, Ext ι H ι' H' → Rep K mg ι' h H' → RV K mg ι' H' v x → D.rt x H'
  | .ex e ρ h => ∀ ι' H' σ' c d, Ext ι H ι' H' → Rep K mg ι' h H' → REn K mg ι' H' ρ σ' → REx K mg ι' H' e c d → W c d σ' H'
end
section
variable {K : Fg} {mg : Str → Option Value} {ι ι' : Mp} {h : AH} {H H' : Hp} {D : Ends} {W : WX} {ρ : En} {σ : St}
theorem GS.ext {o : SOut} (g : GS K mg o ι H D W) (e : Ext ι H ι' H') : GS K mg o ι' H' D W := by
  cases o with
  | stuck => exact g
  | nx ρ h => exact fun i1 H1 s e1 => g i1 H1 s (e.trans e1)
  | bk ρ h => exact fun i1 H1 s e1 => g i1 H1 s (e.trans e1)
  | ct ρ h => exact fun i1 H1 s e1 => g i1 H1 s (e.trans e1)
  | rt v h => exact fun i1 H1 s e1 => g i1 H1 s (e.trans e1)
  | ex x ρ h => exact fun i1 H1 s c d e1 => g i1 H1 s c d (e.trans e1)
theorem GS.go {α β : Type} {R : Mp → Hp → α → β → Prop} {o : Out α} {f : α → AH → SOut} {Q : β → Hp → Prop} (g : GS K mg (o.go ρ f) ι H D W) (E : REn K mg ι H ρ σ)
    (k : ∀ v h1 ι1 H1 x, o = .ok v h1 → Ext ι H ι1 H1 → Rep K mg ι1 h1 H1 → R ι1 H1 v x → GS K mg (f v h1) ι1 H1 D W → Q x H1) : GE K mg R o ι H Q fun c d H' => W c d σ H' := by
  cases o with
  | stuck => exact g
  | ok a h => exact fun i1 H1 b e1 r1 rv => k a h i1 H1 b rfl e1 r1 rv (GS.ext g e1)
  | ex x h => exact fun i1 H1 c d e1 r1 rx => g i1 H1 σ c d e1 r1 (E.ext e1) rx
theorem GS.seq {o : SOut} {f : En → AH → SOut} {N : St → Hp → Prop} (g : GS K mg (o.seq f) ι H D W) (k : ∀ ρ h ι1 H1 σ1, Ext ι H ι1 H1 → Rep K mg ι1 h H1 → REn K mg ι1 H1 ρ σ1 → GS K mg (f ρ h) ι1 H1 D W → N σ1 H1) : GS K mg o ι H { D with nx := N } W := by
  cases o with
  | nx ρ h => exact fun i1 H1 s e1 r1 E1 => k ρ h i1 H1 s e1 r1 E1 (GS.ext g e1)
  | _ => exact g
theorem GS.nxt {Q : St → Hp → Prop} (g : GS K mg (.nx ρ h) ι H D W) (R : Rep K mg ι h H) (E : REn K mg ι H ρ σ) : D.nx σ H := g ι H σ .refl R E
/-- within a loop -/
theorem GS.turn {o : SOut} {f : En → AH → SOut} {N : St → Hp → Prop} (g : GS K mg (match o with | .nx ρ h => f ρ h | .ct ρ h => f ρ h | .bk ρ h => .nx ρ h | o => o) ι H D W)
    (k : ∀ ρ h ι1 H1 σ1, Ext ι H ι1 H1 → Rep K mg ι1 h H1 → REn K mg ι1 H1 ρ σ1 → GS K mg (f ρ h) ι1 H1 D W → N σ1 H1) : GS K mg o ι H { D with nx := N, ct := N, bk := D.nx } W := by
  cases o with
  | nx ρ h => exact fun i1 H1 s e1 r1 E1 => k ρ h i1 H1 s e1 r1 E1 (GS.ext g e1)
  | ct ρ h => exact fun i1 H1 s e1 r1 E1 => k ρ h i1 H1 s e1 r1 E1 (GS.ext g e1)
  | bk ρ h => exact g
  | _ => exact g
end
/-! the store at an index, a key -/
section
variable {K : Fg} {mg : Str → Option Value} {ι : Mp} {h : AH} {H : Hp}
theorem hasK_any {α : Type} {k : Key} : ∀ {ks : List Key} {ws : List α}, ks.length = ws.length → ((ks.zip ws).any fun kv => decide (kv.1 = k)) = hasK k ks
  | [], _, _ => rfl
  | j :: ks, [], e => by simp at e
  | j :: ks, w :: ws, e => by
    rw [List.zip_cons_cons, List.any_cons, hasK_any (by simpa using e)]
    show _ = if j = k then true else hasK k ks
    by_cases hj : j = k <;> simp [hj]
theorem hasK_mem {k : Key} : ∀ {ks : List Key}, hasK k ks = false → k ∉ ks
  | [], _ => by simp
  | j :: ks, e => by
    unfold hasK at e
    split at e
    · cases e
    · rename_i hj
      simp only [List.mem_cons, not_or]
      exact ⟨fun z => hj z.symm, hasK_mem e⟩
theorem putKey_map {α : Type} {k : Key} {x : α} : ∀ {ks : List Key} {ws : List α}, ks.length = ws.length → (ks.zip ws).map (fun kv => if kv.1 = k then (kv.1, x) else kv) = ks.zip (putKey k x ks ws)
  | [], _, _ => rfl
  | j :: ks, [], e => by simp at e
  | j :: ks, w :: ws, e => by
    rw [List.zip_cons_cons, List.map_cons, putKey_map (by simpa using e)]
    show _ = (j :: ks).zip ((if j = k then x else w) :: putKey k x ks ws)
    rw [List.zip_cons_cons]
    by_cases hj : j = k <;> simp [hj]
theorem putKey_len {α : Type} {k : Key} {x : α} : ∀ (ks : List Key) (ws : List α), (putKey k x ks ws).length = ws.length
  | [], _ => by unfold putKey; rfl
  | j :: ks, [] => by unfold putKey; rfl
  | j :: ks, w :: ws => by unfold putKey; rw [List.length_cons, List.length_cons, putKey_len ks ws]
theorem RVs.putKey {k : Key} {x : AV} {v : V} (r : RV K mg ι H x v) : ∀ {ks : List Key} {xs : List AV} {vs : List V}, RVs K mg ι H xs vs → RVs K mg ι H (Zk.putKey k x ks xs) (Zk.putKey k v ks vs)
  | [], _, _, t => by unfold Zk.putKey; exact t
  | j :: ks, _, _, .nil => by unfold Zk.putKey; exact .nil
  | j :: ks, _, _, .cons h t => by
    unfold Zk.putKey
    refine .cons ?_ (RVs.putKey r t)
    split <;> assumption
theorem putD_ok {k : Key} {x : AV} {v : V} {ks : List Key} {xs : List AV} {vs : List V} {a : Addr} (hl : ks.length = vs.length) (hn : ks.Nodup) (t : RVs K mg ι H xs vs) (r : RV K mg ι H x v) (hH : H a = some (.dK (putK (ks.zip vs) k v))) : RO K mg ι H a (putD k x ks xs) := by
  unfold putK at hH
  rw [hasK_any hl] at hH
  unfold putD
  by_cases e : hasK k ks = true
  · rw [if_pos e] at hH ⊢
    rw [putKey_map hl] at hH
    exact ⟨_, hH, by rw [putKey_len]; exact hl, hn, t.putKey r⟩
  · rw [if_neg e] at hH ⊢
    refine ⟨vs ++ [v], ?_, by simp [hl], ?_, t.append (.cons r .nil)⟩
    · rw [hH, List.zip_append hl]; rfl
    · rw [List.nodup_append]
      refine ⟨hn, by simp, fun p hp q hq => ?_⟩
      have : q = k := by simpa using hq
      subst this
      rintro rfl
      exact hasK_mem (by simpa using e) hp
end
section
variable {X : Cx} {T : Tb} {C : Ck} {W : WX}
def rSetA (K : Fg) (mg : Str → Option Value) : TSet := fun o i v H Q => ∃ ι h a b c h', Rep K mg ι h H ∧ RV K mg ι H a o ∧ RV K mg ι H b i ∧ RV K mg ι H c v ∧ setS h a b c = some h' ∧ ∀ ι' H', Ext ι H ι' H' → Rep K mg ι' h' H' → Q H'
theorem keyA_ok {K : Fg} {mg : Str → Option Value} {ι : Mp} {H : Hp} {a : AV} {x : V} {k : Key} (r : RV K mg ι H a x) (e : keyA a = some k) : x = kV k := by
  cases r <;> first
    | (cases e; rfl)
    | cases e
theorem set_all (hu : X.A.units + 1 < cLine) : PSet X (rSetA X.K X.mg) := by
  intro pins s σ H o i v ov iv u Q I ro ri rv hq
  obtain ⟨ι, h, a, b, c, h', R, ra, rb, rc, e, q⟩ := hq
  unfold setS at e
  split at e
  · rename_i r
    cases ra with
    | ref hi =>
      split at e
      · rename_i xs hx
        obtain ⟨k, h1, e⟩ := Option.bind_eq_some_iff.mp e
        obtain ⟨j, h2, rfl⟩ := Option.map_eq_some_iff.mp e
        have := intO_ok rb h1
        subst this
        obtain ⟨a', ha, ws, k1, t⟩ := R.at hx
        rw [hi] at ha; cases ha
        have hw : Ext ι H ι (upd H _ (.lst (ws.set j v))) := .write (List.mem_of_getElem? hi)
        exact set_list pins s σ H _ _ v ov iv u Q I ro ri rv ⟨_, ws, k, j, rfl, rfl, k1, by rw [← t.length]; exact h2, q ι _ hw (R.write hi ⟨_, upd_same, (t.set j rc).ext hw⟩)⟩
      · rename_i ks xs hx
        obtain ⟨k, h1, e⟩ := Option.bind_eq_some_iff.mp e
        split at e
        · rename_i hz
          cases e
          have := keyA_ok rb h1
          subst this
          obtain ⟨a', ha, ws, k1, k2, k3, t⟩ := R.at hx
          rw [hi] at ha; cases ha
          have hw : Ext ι H ι (upd H _ (.dK (putK (ks.zip ws) k v))) := .write (List.mem_of_getElem? hi)
          exact set_dict hu pins s σ H _ _ v ov iv u Q I ro ri rv ⟨_, _, rfl, DPut.k k1 (by rw [List.length_zip, ← k2, Nat.min_self]; exact hz), q ι _ hw (R.write hi (putD_ok k2 k3 (t.ext hw) (rc.ext hw) upd_same))⟩
        · cases e
      · cases e
  · cases e
/-! targets -/
abbrev REr (K : Fg) (mg : Str → Option Value) : Mp → Hp → En → St → Prop := fun ι H ρ σ => REn K mg ι H ρ σ
def tSG (K : Fg) (mg : Str → Option Value) (T : Tb) (W : WX) (t : SG) : TG := fun v σ H Q => ∃ ι ρ h a, Rep K mg ι h H ∧ REn K mg ι H ρ σ ∧ RV K mg ι H a v ∧ ∃ ρ' h', evG T t a ρ h = .ok ρ' h' ∧ ∀ ι' H' σ', Ext ι H ι' H' → Rep K mg ι' h' H' → REn K mg ι' H' ρ' σ' → Q σ' H'
def tSGs (K : Fg) (mg : Str → Option Value) (T : Tb) (W : WX) (t : SGs) : TGs := fun vs σ H Q => ∃ ι ρ h as, Rep K mg ι h H ∧ REn K mg ι H ρ σ ∧ RVs K mg ι H as vs ∧ ∃ ρ' h', evGs T t as ρ h = .ok ρ' h' ∧ ∀ ι' H' σ', Ext ι H ι' H' → Rep K mg ι' h' H' → REn K mg ι' H' ρ' σ' → Q σ' H'
theorem bind_ok {α β : Type} {o : Out α} {f : α → AH → Out β} {b : β} {h : AH} (e : o.bind f = .ok b h) : ∃ a h1, o = .ok a h1 ∧ f a h1 = .ok b h := by
  cases o with
  | ok a h1 => exact ⟨a, h1, rfl, e⟩
  | stuck => cases e
  | ex _ _ => cases e
/-- an expression whose end is known -/
theorem GE.known {K : Fg} {mg : Str → Option Value} {ι : Mp} {H : Hp} {α β : Type} {R : Mp → Hp → α → β → Prop} {o : Out α} {a : α} {h : AH} {Q : β → Hp → Prop} {E : XK} (e : o = .ok a h) (k : ∀ ι1 H1 x, Ext ι H ι1 H1 → Rep K mg ι1 h H1 → R ι1 H1 a x → Q x H1) : GE K mg R o ι H Q E := by
  subst e
  exact k
theorem evGs_cons {t : SG} {ts : SGs} {as : List AV} {ρ ρ' : En} {h h' : AH} (e : evGs T (.cons t ts) as ρ h = .ok ρ' h') : ∃ x xs ρ1 h1, as = x :: xs ∧ evG T t x ρ h = .ok ρ1 h1 ∧ evGs T ts xs ρ1 h1 = .ok ρ' h' := by
  cases as with
  | nil => simp only [evGs] at e; cases e
  | cons x xs =>
    simp only [evGs] at e
    split at e
    · rename_i ρ1 h1 h2
      exact ⟨x, xs, ρ1, h1, rfl, h2, e⟩
    · cases e
theorem evGs_nil {as : List AV} {ρ ρ' : En} {h h' : AH} (e : evGs T .nil as ρ h = .ok ρ' h') : as = [] ∧ ρ' = ρ ∧ h' = h := by
  cases as with
  | nil => simp only [evGs] at e; cases e; exact ⟨rfl, rfl, rfl⟩
  | cons _ _ => simp only [evGs] at e; cases e
theorem evGs_len : ∀ (ts : SGs) {es : List Expr} {as : List AV} {ρ ρ' : En} {h h' : AH}, chkSGs C ts es = true → evGs T ts as ρ h = .ok ρ' h' → as.length = es.length
  | .nil, [], _, _, _, _, _, _, e => by rw [(evGs_nil e).1]; rfl
  | .nil, _ :: _, _, _, _, _, _, h, _ => by unfold chkSGs at h; exact absurd h Bool.false_ne_true
  | .cons _ _, [], _, _, _, _, _, h, _ => by unfold chkSGs at h; exact absurd h Bool.false_ne_true
  | .cons t ts, x :: xs, _, _, _, _, _, h, e => by
    simp only [chkSGs, Bool.and_eq_true] at h
    obtain ⟨y, ys, ρ1, h1, rfl, _, e2⟩ := evGs_cons e
    exact congrArg (· + 1) (evGs_len ts h.2 e2)
theorem chkSG_nm {i : Nat} {e : Expr} (h : chkSG C (.nm i) e = true) : ∃ x p, e = .Name x p ∧ (C.N[i]? == some x) = true ∧ locB C.sc x = true ∧ (C.fnB x = true ∨ (C.sc.names.lookup x == some .local) = true) := by
  cases e <;> first
    | (simp only [chkSG, Bool.and_eq_true, Bool.or_eq_true] at h; exact ⟨_, _, rfl, h.1.1, h.1.2, h.2⟩)
    | (simp only [chkSG] at h; cases h)
theorem chkSG_tp {ts : SGs} {e : Expr} (h : chkSG C (.tp ts) e = true) : ∃ es k p, e = .Tuple es k p ∧ chkSGs C ts es = true := by
  cases e <;> first
    | (simp only [chkSG] at h; exact ⟨_, _, _, rfl, h⟩)
    | (simp only [chkSG] at h; cases h)
theorem chkSG_sub {o k : IE} {e : Expr} (h : chkSG C (.sub o k) e = true) : ∃ eo ek p, e = .Subscript eo ek p ∧ noSlice ek = true ∧ chkE C o eo = true ∧ chkE C k ek = true := by
  cases e <;> first
    | (simp only [chkSG, Bool.and_eq_true] at h; exact ⟨_, _, _, rfl, h.1.1, h.1.2, h.2⟩)
    | (simp only [chkSG] at h; cases h)
mutual
theorem sSG (c : Cd X T C W) : ∀ (t : SG) (e : Expr), chkSG C t e = true → PG X e (tSG X.K X.mg T W t)
  | .nm i, e, h => by
    obtain ⟨x, p, rfl, h1, h2, h3⟩ := chkSG_nm h
    refine PG.imp (pg_name (i := i) c.nd (c.look h1) (c.loc h2) (h3.imp (c.fn x) fun z => by rw [c.hsc]; exact beq_iff_eq.mp z)) ?_
    rintro v σ H Q ⟨ι, ρ, h, a, R, E, ra, ρ', h', e, q⟩
    simp only [evG] at e
    split at e
    · cases e; exact q ι H _ .refl R (E.set ra)
    · cases e
  | .tp ts, e, h => by
    obtain ⟨es, k, p, rfl, h1⟩ := chkSG_tp h
    have S := sSGs c ts es h1
    refine PG.imp (pg_tup (n := es.length) c.calm S.1 S.2.1 S.2.2) ?_
    rintro v σ H Q ⟨ι, ρ, h, a, R, E, ra, ρ', h', e, q⟩
    cases ra with
    | tup f t =>
      simp only [evG] at e
      refine ⟨_, _, rfl, f.sq, ?_, ι, ρ, h, _, R, E, t, ρ', h', e, q⟩
      rw [← t.length]
      exact evGs_len ts h1 e
    | _ => simp only [evG] at e; cases e
  | .sub o k, e, h => by
    obtain ⟨eo, ek, p, rfl, h1, h2, h3⟩ := chkSG_sub h
    refine PG.imp (pg_sub ((sE o c eo).1 h2) ((sE k c ek).1 h3) (set_all c.u1) (by cases ek <;> first | exact absurd h1 Bool.false_ne_true | (intro _; rfl))) ?_
    rintro v σ H Q ⟨ι, ρ, h, a, R, E, ra, ρ', h', e, q⟩
    simp only [evG] at e
    obtain ⟨x, h1, e1, e⟩ := bind_ok e
    obtain ⟨y, h2, e2, e⟩ := bind_ok e
    cases e3 : setS h2 x y a with
    | none => rw [e3] at e; cases e
    | some h3 =>
      rw [e3] at e
      cases e
      refine ⟨ι, ρ, h, R, E, GE.known e1 fun ι1 H1 xv k1 R1 r1 => ⟨ι1, ρ, h1, R1, E.ext k1, GE.known e2 fun ι2 H2 yv k2 R2 r2 => ?_⟩⟩
      exact ⟨ι2, h2, x, y, a, h', R2, r1.ext k2, r2, (ra.ext k1).ext k2, e3, fun ι3 H3 k3 R3 => q ι3 H3 σ ((k1.trans k2).trans k3) R3 (((E.ext k1).ext k2).ext k3)⟩
theorem sSGs (c : Cd X T C W) : ∀ (ts : SGs) (es : List Expr), chkSGs C ts es = true → PGs X es (tSGs X.K X.mg T W ts) ∧ (assignEach es X.env).length = es.length ∧ (assignEach es X.env).findIdx? (·.1) = none
  | .nil, [], h => by
    refine ⟨PGs.imp pgs_nil ?_, rfl, rfl⟩
    rintro vs σ H Q ⟨ι, ρ, h, as, R, E, ra, ρ', h', e, q⟩
    obtain ⟨rfl, rfl, rfl⟩ := evGs_nil e
    cases ra
    exact ⟨rfl, q ι H σ .refl R E⟩
  | .nil, _ :: _, h => by unfold chkSGs at h; exact absurd h Bool.false_ne_true
  | .cons _ _, [], h => by unfold chkSGs at h; exact absurd h Bool.false_ne_true
  | .cons t ts, e :: es, h => by
    simp only [chkSGs, Bool.and_eq_true] at h
    obtain ⟨⟨h1, h2⟩, h3⟩ := h
    have A := sSG c t e h2
    obtain ⟨B1, B2, B3⟩ := sSGs c ts es h3
    have ea := assign_of (es := es) (env := X.env) h1
    refine ⟨PGs.imp (pgs_cons A B1 (by rw [ea]; rfl)) ?_, by rw [ea]; simp [B2], by rw [ea, List.findIdx?_cons]; simpa using B3⟩
    rintro vs σ H Q ⟨ι, ρ, h, as, R, E, ra, ρ', h', e1, q⟩
    obtain ⟨x, xs, ρ1, h1, rfl, e2, e3⟩ := evGs_cons e1
    cases ra with
    | cons r rs => exact ⟨_, _, rfl, ι, ρ, h, x, R, E, r, ρ1, h1, e2, fun ι1 H1 σ1 k1 R1 E1 => ⟨ι1, ρ1, h1, xs, R1, E1, rs.ext k1, ρ', h', e3, fun ι2 H2 σ2 k2 R2 E2 => q ι2 H2 σ2 (k1.trans k2) R2 E2⟩⟩
end
end
end Zk
/-! Part 9c: all statements keep their word. -/
namespace Zk
open PySem L2
def tS (K : Fg) (mg : Str → Option Value) (T : Tb) (W : WX) (st : IS) : TS := fun D σ H => ∃ ι ρ h, Rep K mg ι h H ∧ REn K mg ι H ρ σ ∧ GS K mg (exS T st ρ h) ι H D W
def tSs (K : Fg) (mg : Str → Option Value) (T : Tb) (W : WX) (st : ISs) : TS := fun D σ H => ∃ ι ρ h, Rep K mg ι h H ∧ REn K mg ι H ρ σ ∧ GS K mg (exSs T st ρ h) ι H D W
section
variable {X : Cx} {T : Tb} {C : Ck} {W : WX} {s : Stmt}
theorem PS.imp {t t' : TS} (h : PS X s t) (i : ∀ D σ H, t' D σ H → t D σ H) : PS X s t' := ⟨fun pins s σ H D I q => h.run pins s σ H D I (i D σ H q)⟩
theorem PSs.imp {ss : List Stmt} {t t' : TS} (h : PSs X ss t) (i : ∀ D σ H, t' D σ H → t D σ H) : PSs X ss t' := ⟨fun pins s σ H D I q => h.run pins s σ H D I (i D σ H q)⟩
/-! what the look tells -/
theorem cs_expr {e : IE} (h : chkS C (.expr e) s = true) : ∃ x p, s = .Expr x p ∧ noComp x = true ∧ chkE C e x = true := by
  cases s <;> first
    | (simp only [chkS, Bool.and_eq_true] at h; exact ⟨_, _, rfl, h.1, h.2⟩)
    | (simp only [chkS] at h; cases h)
theorem cs_asg {t : SG} {e : IE} (h : chkS C (.asg t e) s = true) : ∃ tg x p, s = .Assign [tg] x p ∧ noComp x = true ∧ noSw tg x = true ∧ chkSG C t tg = true ∧ chkE C e x = true := by
  cases s with
  | Assign ts x p =>
    match ts, h with
    | [tg], h => simp only [chkS, Bool.and_eq_true] at h; exact ⟨_, _, _, rfl, h.1.1.1, h.1.1.2, h.1.2, h.2⟩
    | [], h => simp only [chkS] at h; cases h
    | _ :: _ :: _, h => simp only [chkS] at h; cases h
  | _ => simp only [chkS] at h; cases h
theorem cs_ret {e : IE} (h : chkS C (.ret e) s = true) : ∃ x p, s = .Return (some x) p ∧ chkE C e x = true := by
  cases s with
  | Return v p => cases v with
    | some x => simp only [chkS] at h; exact ⟨_, _, rfl, h⟩
    | none => simp only [chkS] at h; cases h
  | _ => simp only [chkS] at h; cases h
theorem cs_retN (h : chkS C .retN s = true) : ∃ p, s = .Return none p := by
  cases s with
  | Return v p => cases v with
    | none => exact ⟨_, rfl⟩
    | some x => simp only [chkS] at h; cases h
  | _ => simp only [chkS] at h; cases h
theorem cs_if {t : IT} {a b : ISs} (h : chkS C (.ifS t a b) s = true) : ∃ c p q pos, s = .If c p q pos ∧ chkT C t c = true ∧ chkSs C a p = true ∧ chkSs C b q = true := by
  cases s <;> first
    | (simp only [chkS, Bool.and_eq_true] at h; exact ⟨_, _, _, _, rfl, h.1.1, h.1.2, h.2⟩)
    | (simp only [chkS] at h; cases h)
theorem cs_for {tg : ITg} {it : II} {b : ISs} (h : chkS C (.forS tg it b) s = true) : ∃ t x body p, s = .For t x body [] p ∧ chkI C it x = true ∧ (it.pair = true → tg.isTp = true) ∧ noSet x = true ∧ chkG C tg t = true ∧ chkSs C b body = true := by
  cases s with
  | For t x body els p => cases els with
    | nil =>
      simp only [chkS, Bool.and_eq_true] at h
      exact ⟨_, _, _, _, rfl, h.1.1.1.1, fun z => by have := h.1.1.1.2; rw [z] at this; exact this, h.1.1.2, h.1.2, h.2⟩
    | cons _ _ => simp only [chkS] at h; cases h
  | _ => simp only [chkS] at h; cases h
theorem cs_whl {t : IT} {b : ISs} (h : chkS C (.whl t b) s = true) : ∃ c body p, s = .While c body [] p ∧ chkT C t c = true ∧ chkSs C b body = true := by
  cases s with
  | While c body els p => cases els with
    | nil => simp only [chkS, Bool.and_eq_true] at h; exact ⟨_, _, _, rfl, h.1, h.2⟩
    | cons _ _ => simp only [chkS] at h; cases h
  | _ => simp only [chkS] at h; cases h
theorem cs_brk (h : chkS C .brk s = true) : ∃ p, s = .Break p := by
  cases s <;> first | exact ⟨_, rfl⟩ | (simp only [chkS] at h; cases h)
theorem cs_cont (h : chkS C .cont s = true) : ∃ p, s = .Continue p := by
  cases s <;> first | exact ⟨_, rfl⟩ | (simp only [chkS] at h; cases h)
theorem cs_pass (h : chkS C .pass s = true) : ∃ p, s = .Pass p := by
  cases s <;> first | exact ⟨_, rfl⟩ | (simp only [chkS] at h; cases h)
theorem cs_asgL {i : Nat} {e : IE} (h : chkS C (.asgL i e) s = true) : ∃ m own tg it c a y py elt gs scope p q, e = .lc m own tg it c a ∧ s = .Assign [.Name y py] (.ListComp elt gs scope p) q ∧ (C.N[i]? == some y) = true ∧ C.sc.names.lookup y = some .local ∧ (py.line == p.line) = true ∧
    (scope.names.any fun q => q.1 == y && (q.2 == .local || q.2 == .cell)) = false ∧ chkE C (.lc m own tg it c a) (.ListComp elt gs scope p) = true := by
  unfold chkS at h
  split at h <;> first
    | contradiction
    | (rename_i heq; cases heq
       simp only [Bool.and_eq_true, Bool.not_eq_true', beq_iff_eq] at h
       obtain ⟨⟨⟨⟨h1, h2⟩, h3⟩, h4⟩, h5⟩ := h
       exact ⟨_, _, _, _, _, _, _, _, _, _, _, _, _, rfl, rfl, beq_iff_eq.mpr h1, h2, beq_iff_eq.mpr h3, h4, h5⟩)
theorem cs_par {i j : Nat} {es : IEs} (h : chkS C (.par i j es) s = true) : ∃ x px y py k kp a b k2 kp2 q, s = .Assign [.Tuple [.Name x px, .Name y py] k kp] (.Tuple [a, b] k2 kp2) q ∧ (C.N[i]? == some x) = true ∧ (C.N[j]? == some y) = true ∧ x ≠ y ∧ C.sc.names.lookup x = some .local ∧ C.sc.names.lookup y = some .local ∧
    (py.line == px.line) = true ∧ [a, b].all (foldedForSure 8) = false ∧ [a, b].all (constantsAlone 8) = false ∧ chkEs C es [a, b] = true := by
  unfold chkS at h
  split at h <;> first
    | contradiction
    | (rename_i heq; cases heq
       simp only [Bool.and_eq_true, Bool.not_eq_true', beq_iff_eq, beq_eq_false_iff_ne] at h
       obtain ⟨⟨⟨⟨⟨⟨⟨⟨h1, h2⟩, h3⟩, h4⟩, h5⟩, h6⟩, h7⟩, h8⟩, h9⟩ := h
       exact ⟨_, _, _, _, _, _, _, _, _, _, _, rfl, beq_iff_eq.mpr h1, beq_iff_eq.mpr h2, h3, h4, h5, beq_iff_eq.mpr h6, h7, h8, h9⟩)
end
theorem noComp_sw {x : Expr} {t : Option Expr} {l : Nat} {env : Env} (h : noComp x = true) : swapsWith x t l env = pure false := by
  cases x <;> first
    | exact absurd h Bool.false_ne_true
    | rfl
theorem fm_names {ts : List Expr} {f : Expr → Option Str} (h : ts.any (fun | .Name .. => false | _ => true) = true) (hf : ∀ e, (∀ x p, e ≠ .Name x p) → f e = none) : (ts.filterMap f).length ≠ ts.length := by
  have lt : (ts.filterMap f).length < ts.length := by
    obtain ⟨e, he, hk⟩ := List.any_eq_true.mp h
    have hn : f e = none := hf e (by rintro x p rfl; cases hk)
    induction ts with
    | nil => cases he
    | cons a as ih =>
      rw [List.filterMap_cons]
      rcases List.mem_cons.mp he with rfl | he
      · rw [hn]
        have := List.length_filterMap_le f as
        simp only [List.length_cons]
        omega
      · have ih := ih (List.any_eq_true.mpr ⟨e, he, hk⟩) he
        cases f a <;> simp only [List.length_cons] <;> omega
  omega
theorem noSw_ok {t e : Expr} {env : Env} (h : noSw t e = true) : swappedStores [t] e env = pure none := by
  cases t with
  | Tuple ts k p =>
    cases e with
    | Tuple vs k2 p2 =>
      unfold noSw at h
      unfold swappedStores
      simp only [Bool.or_eq_true] at h
      dsimp only
      split
      · rfl
      · rename_i c1
        split
        · rfl
        · split
          · rfl
          · rename_i c3
            split
            · rfl
            · rename_i c4
              exfalso
              rcases h with (h | h) | h
              · exact c1 (by rw [h]; simp)
              · refine c3 ?_
                rw [Bool.or_eq_true]
                refine .inl ?_
                rw [bne_iff_ne]
                exact fm_names h fun e he => by
                  cases e <;> first
                    | rfl
                    | exact absurd rfl (he _ _)
              · exact c4 h
    | _ => rfl
  | List _ _ => cases e <;> exact absurd h Bool.false_ne_true
  | _ => cases e <;> rfl
theorem sw_pair {x y : Str} {px py kp kp2 : Pos} {k k2 : Nat} {a b : Expr} {env : Env} (hk : env.scope.kind = .function) (hx : env.scope.names.lookup x = some .local) (hy : env.scope.names.lookup y = some .local) (hn : x ≠ y) (hl : (py.line == px.line) = true)
    (hf : [a, b].all (foldedForSure 8) = false) (hc : [a, b].all (constantsAlone 8) = false) (hs : noStar a = true) (hs2 : noStar b = true) : swappedStores [.Tuple [.Name x px, .Name y py] k kp] (.Tuple [a, b] k2 kp2) env = pure (some [x, y]) := by
  have hb : env.blockKind = .function := by unfold Env.blockKind; rw [hk]; rfl
  have kx : env.kindOf x = some .local := hx
  have ky : env.kindOf y = some .local := hy
  unfold swappedStores
  dsimp only
  rw [if_neg (by simp [hb])]
  rw [if_neg (by
    intro hz
    obtain ⟨e, he, hk⟩ := List.any_eq_true.mp hz
    have : noStar e = true := by
      rcases List.mem_cons.mp he with rfl | he
      · exact hs
      · have : e = b := by simpa using he
        rw [this]; exact hs2
    cases e <;> first
      | exact absurd this Bool.false_ne_true
      | cases hk)]
  simp only [List.filterMap_cons, List.filterMap_nil, List.head?_cons, Option.map_some, Option.getD_some, kx, ky, Expr.pos, hl, beq_self_eq_true, Bool.and_self, if_true]
  rw [if_neg (by
    have : [x, y].eraseDups = [x, y] := by
      simp [List.eraseDups_cons, Ne.symm hn, hn]
    rw [this]; simp), hf, if_neg (by simp)]
  rw [hc]
  rfl
section
variable {X : Cx} {T : Tb} {C : Ck} {W : WX}
theorem fn_of {sc : Scope} (h : isFn sc = true) : sc.kind = .function := by
  unfold isFn at h
  split at h
  · assumption
  · cases h
theorem f_for (c : Cd X T C W) (po : PassesOwn (model X.prog X.w) X.A X.env X.xe) {tg : ITg} {it : II} {b : ISs} {t x : Expr} {body : List Stmt} {p : Pos} (hi : PI X t x (tI X.K X.mg T W it)) (hg : PG X t (tG X.K X.mg tg)) (hb : PSs X body (tSs X.K X.mg T W b)) (hs : noSet x = true) :
    PS X (.For t x body [] p) (tS X.K X.mg T W (.forS tg it b)) := by
  refine PS.imp (ps_for po c.calm hi hg hb (noSet_of hs)) ?_
  rintro D σ H ⟨ι, ρ, h, R, E, g⟩
  simp only [exS] at g
  refine ⟨ι, ρ, h, R, E, g.go E fun t h1 ι1 H1 J _ e1 R1 w g1 => ?_⟩
  obtain ⟨G, Y, wk, wG, wY⟩ := w
  have fin0 : ∀ {k i : Nat} {ρc : En} {hc : AH} {ιc : Mp} {Hc : Hp}, GS X.K X.mg (forG t tg (fun ρ h => exSs T b ρ h) k i ρc hc) ιc Hc D W → t.fin hc = true := by
    intro k i ρc hc ιc Hc g
    cases hf : t.fin hc with
    | true => rfl
    | false =>
      exfalso
      cases k with
      | zero => simp only [forG, hf] at g; exact g
      | succ k => simp only [forG, hf] at g; exact g
  refine for_it wk (fun i σ Hc => ∃ ιc ρc hc, Ext ι1 H1 ιc Hc ∧ Rep X.K X.mg ιc hc Hc ∧ REn X.K X.mg ιc Hc ρc σ ∧ GS X.K X.mg (forG t tg (fun ρ h => exSs T b ρ h) (t.len - i) i ρc hc) ιc Hc D W) ?_ ?_ ?_ ?_
  · exact ⟨ι1, ρ, h1, .refl, R1, E.ext e1, g1⟩
  · rintro i σc Hc hi ⟨ιc, ρc, hc, ec, Rc, Ec, gc⟩
    exact wG ιc hc Hc ec.w Rc (fin0 gc)
  · rintro i x σc Hc H' hi ⟨ιc, ρc, hc, ec, Rc, Ec, gc⟩ y
    have fn := fin0 gc
    obtain ⟨a, k1, k2, k3, k4⟩ := wY ιc hc i Hc x H' ec.w Rc fn hi y
    have en : t.len - i = (t.len - (i + 1)) + 1 := by omega
    rw [en] at gc
    simp only [forG, fn, if_true, k1] at gc
    cases has : asgT tg a ρc with
    | none => rw [has] at gc; exact gc.elim
    | some ρ' =>
      rw [has] at gc
      refine ⟨ιc, ρc, ρ', hc, a, k3, Ec.ext k2, k4, has, fun σ2 E3 _ _ => ⟨ιc, ρ', hc, k3, E3, ?_⟩⟩
      exact (GS.ext gc k2).turn fun ρ3 h3 ι3 H3 σ3 e3 R3 E3 g3 => ⟨ι3, ρ3, h3, (ec.trans k2).trans e3, R3, E3, g3⟩
  · rintro σc Hc ⟨ιc, ρc, hc, ec, Rc, Ec, gc⟩
    have fn := fin0 gc
    rw [Nat.sub_self] at gc
    simp only [forG, fn, if_true] at gc
    exact gc ιc Hc σc .refl Rc Ec
theorem f_whl (po : PassesOwn (model X.prog X.w) X.A X.env X.xe) {t : IT} {b : ISs} {cx : Expr} {body : List Stmt} {p : Pos} (ht : PT X cx (tT X.K X.mg T W t)) (hb : PSs X body (tSs X.K X.mg T W b)) : PS X (.While cx body [] p) (tS X.K X.mg T W (.whl t b)) := by
  refine PS.imp (ps_while po ht hb) ?_
  rintro D σ H ⟨ι, ρ, h, R, E, g⟩
  simp only [exS] at g
  refine ⟨fun m σ H => ∃ ι ρ h, Rep X.K X.mg ι h H ∧ REn X.K X.mg ι H ρ σ ∧ GS X.K X.mg (whG (fun ρ h => evT T t ρ h) (fun ρ h => exSs T b ρ h) m ρ h) ι H D W, ⟨T.fu, ι, ρ, h, R, E, g⟩, ?_⟩
  rintro m σ1 H1 ⟨ι1, ρ1, h1, R1, E1, g1⟩
  cases m with
  | zero => exact g1.elim
  | succ n =>
    simp only [whG] at g1
    refine ⟨ι1, ρ1, h1, R1, E1, g1.go E1 fun k h2 ι2 H2 k' _ e2 R2 rk g2 => ?_⟩
    have rk : k = k' := rk
    subst rk
    cases k with
    | false => exact iteF (g2 ι2 H2 σ1 .refl R2 (E1.ext e2))
    | true =>
      refine iteT ⟨fun σ H => ∃ ι ρ h, Rep X.K X.mg ι h H ∧ REn X.K X.mg ι H ρ σ ∧ GS X.K X.mg (whG (fun ρ h => evT T t ρ h) (fun ρ h => exSs T b ρ h) n ρ h) ι H D W, fun σ' H' q => ⟨n, Nat.lt_succ_self n, q⟩, ?_⟩
      simp only [if_true] at g2
      exact ⟨ι2, ρ1, h2, R2, E1.ext e2, g2.turn fun ρ3 h3 ι3 H3 σ3 e3 R3 E3 g3 => ⟨ι3, ρ3, h3, R3, E3, g3⟩⟩
mutual
theorem sS (c : Cd X T C W) (po : PassesOwn (model X.prog X.w) X.A X.env X.xe) (fk : isFn C.sc = true) : ∀ (st : IS) (s : Stmt), chkS C st s = true → PS X s (tS X.K X.mg T W st)
  | .expr e, s, h => by
    obtain ⟨x, p, rfl, h1, h2⟩ := cs_expr h
    refine PS.imp (ps_expr ((sE e c x).1 h2) (noComp_sw h1)) ?_
    rintro D σ H ⟨ι, ρ, h, R, E, g⟩
    simp only [exS] at g
    exact ⟨ι, ρ, h, R, E, g.go E fun v h1 ι1 H1 x _ e1 R1 r1 g1 => g1 ι1 H1 σ .refl R1 (E.ext e1)⟩
  | .asg t e, s, h => by
    obtain ⟨tg, x, p, rfl, h1, h2, h3, h4⟩ := cs_asg h
    refine PS.imp (ps_asg ((sE e c x).1 h4) (sSG c t tg h3) (noComp_sw h1) (noSw_ok h2) (by cases tg <;> first | rfl | (cases t <;> (unfold chkSG at h3; exact absurd h3 Bool.false_ne_true)))) ?_
    rintro D σ H ⟨ι, ρ, h, R, E, g⟩
    simp only [exS] at g
    refine ⟨ι, ρ, h, R, E, g.go E fun v h1 ι1 H1 x _ e1 R1 r1 g1 => ?_⟩
    cases hg : evG T t v ρ h1 with
    | ok ρ2 h2 =>
      rw [hg] at g1
      exact ⟨ι1, ρ, h1, v, R1, E.ext e1, r1, ρ2, h2, hg, g1⟩
    | stuck => rw [hg] at g1; exact g1.elim
    | ex _ _ => rw [hg] at g1; exact g1.elim
  | .asgL i e, s, h => by
    obtain ⟨m, own, tg, it, t, a, y, py, elt, gs, scope, p, q, rfl, rfl, h1, h2, h3, h4, h5⟩ := cs_asgL h
    obtain ⟨elt', et, ei, ifs, scope', p', he, k1, k2, k3, k4, k5, k6, k7, k8⟩ := chk_lc h5
    cases he
    have ok : BlkOk X.N X.env.scope scope (ownOf C.N own) := by rw [c.hN, c.hsc]; exact blkOk_by k1
    have hyl : X.env.scope.names.lookup y = some .local := by rw [c.hsc]; exact h2
    have L := ps_setLc (i := i) (pos := p) (spos := q) (elt := elt) (g := tG X.K X.mg tg) (tt := tT X.K X.mg T W0 t) (te := tE X.K X.mg T W0 a) c.calm c.nd (c.look h1) hyl (sw_true (by rw [c.hsc]; exact fn_of fk) hyl h3 h4) (sI it c ei et k3 fun z => chkG_pair (k4 z) k6) ok
      (fun s H Cc cl fp => sG (c.blk (s := s) (H := H) (Cc := Cc) (cl := cl) (fp := fp)) tg et k6)
      (fun s H Cc cl fp => ifs_ok k7 fun i hi => (sT t (c.blk (s := s) (H := H) (Cc := Cc) (cl := cl) (fp := fp)) i hi).1)
      (fun s H Cc cl fp => (sE a (c.blk (s := s) (H := H) (Cc := Cc) (cl := cl) (fp := fp)) elt).1 k8) (noSet_of k5)
    refine PS.imp L ?_
    rintro D σ H ⟨ι, ρ, h, R, E, g⟩
    unfold exS at g
    rw [ownOf_snd]
    refine lc_read k2 ⟨ι, ρ, h, R, E, g.go E fun v h1 ι1 H1 x _ e1 R1 r1 g1 => ?_⟩
    split at g1
    · exact g1 ι1 H1 _ .refl R1 ((E.ext e1).set r1)
    · exact g1.elim
  | .par i j es, s, h => by
    obtain ⟨x, px, y, py, k, kp, a, b, k2, kp2, q, rfl, h1, h2, h3, h4, h5, h6, h7, h8, h9⟩ := cs_par h
    have hx : X.env.scope.names.lookup x = some .local := by rw [c.hsc]; exact h4
    have hy : X.env.scope.names.lookup y = some .local := by rw [c.hsc]; exact h5
    have hij : i ≠ j := by
      rintro rfl
      have := (beq_iff_eq.mp h1).symm.trans (beq_iff_eq.mp h2)
      exact h3 (Option.some.inj this)
    have st : noStar a = true ∧ noStar b = true := by
      cases es with
      | nil => unfold chkEs at h9; exact absurd h9 Bool.false_ne_true
      | cons e1 es =>
        simp only [chkEs, Bool.and_eq_true] at h9
        cases es with
        | nil => unfold chkEs at h9; exact absurd h9.2 Bool.false_ne_true
        | cons e2 es => simp only [chkEs, Bool.and_eq_true] at h9; exact ⟨h9.1.1, h9.2.1.1⟩
    refine PS.imp (ps_par (i := i) (j := j) c.calm c.nd (c.look h1) (c.look h2) hij hx hy (sEs es c _ h9) (sw_pair (by rw [c.hsc]; exact fn_of fk) hx hy h3 h6 h7 h8 st.1 st.2)) ?_
    rintro D σ H ⟨ι, ρ, h, R, E, g⟩
    simp only [exS] at g
    refine ⟨ι, ρ, h, R, E, g.go E fun vs h1 ι1 H1 us _ e1 R1 r1 g1 => ?_⟩
    split at g1
    · obtain ⟨v, w, rfl, rv, rw'⟩ := two_of r1
      exact ⟨v, w, rfl, g1 ι1 H1 _ .refl R1 (((E.ext e1).set rv).set rw')⟩
    · exact g1.elim
  | .ret e, s, h => by
    obtain ⟨x, p, rfl, h1⟩ := cs_ret h
    refine PS.imp (ps_ret ((sE e c x).1 h1)) ?_
    rintro D σ H ⟨ι, ρ, h, R, E, g⟩
    simp only [exS] at g
    exact ⟨ι, ρ, h, R, E, g.go E fun v h1 ι1 H1 x _ e1 R1 r1 g1 => g1 ι1 H1 x .refl R1 r1⟩
  | .retN, s, h => by
    obtain ⟨p, rfl⟩ := cs_retN h
    refine PS.imp ps_retN ?_
    rintro D σ H ⟨ι, ρ, h, R, E, g⟩
    exact g ι H .non .refl R .non
  | .ifS t a b, s, h => by
    obtain ⟨cx, p, q, pos, rfl, h1, h2, h3⟩ := cs_if h
    refine PS.imp (ps_if (sT t c cx h1).1 (sSs c po fk a p h2) (sSs c po fk b q h3)) ?_
    rintro D σ H ⟨ι, ρ, h, R, E, g⟩
    simp only [exS] at g
    refine ⟨ι, ρ, h, R, E, g.go E fun k h1 ι1 H1 k' _ e1 R1 rk g1 => ?_⟩
    have rk : k = k' := rk
    subst rk
    cases k with
    | true => exact iteT ⟨ι1, ρ, h1, R1, E.ext e1, g1⟩
    | false => exact iteF ⟨ι1, ρ, h1, R1, E.ext e1, g1⟩
  | .forS tg it b, s, h => by
    obtain ⟨t, x, body, p, rfl, h1, h2, h3, h4, h5⟩ := cs_for h
    exact f_for c po (sI it c x t h1 fun z => chkG_pair (h2 z) h4) (sG c tg t h4) (sSs c po fk b body h5) h3
  | .whl t b, s, h => by
    obtain ⟨cx, body, p, rfl, h1, h2⟩ := cs_whl h
    exact f_whl po (sT t c cx h1).1 (sSs c po fk b body h2)
  | .brk, s, h => by
    obtain ⟨p, rfl⟩ := cs_brk h
    refine PS.imp ps_break ?_
    rintro D σ H ⟨ι, ρ, h, R, E, g⟩
    exact g ι H σ .refl R E
  | .cont, s, h => by
    obtain ⟨p, rfl⟩ := cs_cont h
    refine PS.imp ps_continue ?_
    rintro D σ H ⟨ι, ρ, h, R, E, g⟩
    exact g ι H σ .refl R E
  | .pass, s, h => by
    obtain ⟨p, rfl⟩ := cs_pass h
    refine PS.imp ps_pass ?_
    rintro D σ H ⟨ι, ρ, h, R, E, g⟩
    exact g ι H σ .refl R E
theorem sSs (c : Cd X T C W) (po : PassesOwn (model X.prog X.w) X.A X.env X.xe) (fk : isFn C.sc = true) : ∀ (st : ISs) (ss : List Stmt), chkSs C st ss = true → PSs X ss (tSs X.K X.mg T W st)
  | .nil, ss, h => by
    cases ss with
    | nil =>
      refine PSs.imp pss_nil ?_
      rintro D σ H ⟨ι, ρ, h, R, E, g⟩
      exact g ι H σ .refl R E
    | cons _ _ => unfold chkSs at h; exact absurd h Bool.false_ne_true
  | .cons s ss, xs, h => by
    cases xs with
    | nil => unfold chkSs at h; exact absurd h Bool.false_ne_true
    | cons x xs =>
      simp only [chkSs, Bool.and_eq_true] at h
      refine PSs.imp (pss_cons (sS c po fk s x h.1) (sSs c po fk ss xs h.2)) ?_
      rintro D σ H ⟨ι, ρ, h, R, E, g⟩
      simp only [exSs] at g
      exact ⟨ι, ρ, h, R, E, g.seq fun ρ2 h2 ι2 H2 σ2 e2 R2 E2 g2 => ⟨ι2, ρ2, h2, R2, E2, g2⟩⟩
end
end
end Zk
/-! Part 10: defs, and the law's own call. -/
namespace Zk
open PySem L2
/-- a def: its parameters, its names (parameters first), its body -/
structure IFn where
  ps : List Str
  N : List Str
  body : ISs
/-- a call's form: how many by place, which by name; where each parameter's argument stands -/
structure Shp where
  n : Nat
  ks : List Str
  pick : List Nat
structure Prg where
  fns : Str → Option IFn
  shp : Str → List Shp
  con : Str → Option AV
  isi : Str → Str → Option Bool
  fu : Nat
def Shp.fits (vs : List AV) (ks : List Str) (kvs : List AV) (s : Shp) : Bool := s.n == vs.length && decide (s.ks = ks) && kvs.length == ks.length
def Prg.arr (G : Prg) (f : Str) (vs : List AV) (ks : List Str) (kvs : List AV) : Option (List AV) := ((G.shp f).find? (Shp.fits vs ks kvs)).map fun s => s.pick.map fun i => (vs ++ kvs).getD i .non
def Prg.tb (G : Prg) (c : Str → List AV → AH → Out AV) : Tb := { con := G.con, call := c, arr := G.arr, fu := G.fu, isi := G.isi }
def SOut.fin (o : SOut) : Out AV := match o with
  | .rt v h => .ok v h
  | .nx _ h => .ok .non h
  | .ex e _ h => .ex e h
  | _ => .stuck
def env0 (d : IFn) (vs : List AV) : En := vs.map some ++ List.replicate (d.N.length - vs.length) none
/-- a def's call, at most so many within one another -/
def callN (G : Prg) : Nat → Str → List AV → AH → Out AV
  | 0, _, _, _ => .stuck
  | n + 1, f, vs, h => match G.fns f with
    | some d => if vs.length = d.ps.length then (exSs (G.tb (callN G n)) d.body (env0 d vs) h).fin else .stuck
    | none => .stuck
/-- what the text tells of a def -/
structure FnFact (K : Fg) (mg : Str → Option Value) (G : Prg) (bl fs : List Str) (f : Str) (d : IFn) : Prop where
  ex : ∃ a name qual params body scope dV kV doc pm an cdv ct oc od osl, mg f = some (.ref a) ∧ K.lookup a = some ⟨oc, od, .func (PySem.W.fnOf name qual params body scope dV kV doc pm an cdv ct), osl⟩ ∧ PySem.W.codeIn K cdv qual = true ∧
    FnScope d.N d.ps scope ∧ isFn scope = true ∧ chkSs ⟨d.N, scope, bl, fs, fun _ => true⟩ d.body body = true ∧
    ∀ sh ∈ G.shp f, sh.pick.length = d.ps.length ∧ ∀ (s : Shared) (us ws : List Value), K.In s.heap → us.length = sh.n → ws.length = sh.ks.length →
      BindsTo s (PySem.W.fnOf name qual params body scope dV kV doc pm an cdv ct) ⟨us, sh.ks.zip ws⟩ (d.ps.zip (sh.pick.map fun i => (us ++ ws).getD i .none))
structure PrgOk (K : Fg) (mg : Str → Option Value) (G : Prg) (bls fns : List Str) : Prop where
  con : ∀ x v, G.con x = some v → ConOk K mg x v
  bl : ∀ x, bls.contains x = true → mg x = none
  fs : ∀ f, fns.contains f = true → ∃ a, mg f = some (.ref a) ∧ PySem.W.keepIn K (.ref a) = true
  iso : ∀ c, IsiOk K mg (G.tb c)
  fn : ∀ f d, G.fns f = some d → FnFact K mg G bls fns f d
theorem RVs.getD {K : Fg} {mg : Str → Option Value} {ι : Mp} {H : Hp} {xs : List AV} {vs : List V} (r : RVs K mg ι H xs vs) (i : Nat) : RV K mg ι H (xs.getD i .non) (vs.getD i .non) := by
  cases e : vs[i]? with
  | some v =>
    obtain ⟨x, h1, h2⟩ := r.get e
    rw [List.getD_eq_getElem?_getD, List.getD_eq_getElem?_getD, h1, e]
    exact h2
  | none =>
    have : xs[i]? = none := by
      rw [List.getElem?_eq_none_iff] at e ⊢
      rw [r.length]; exact e
    rw [List.getD_eq_getElem?_getD, List.getD_eq_getElem?_getD, this, e]
    exact .non
theorem vals_getD {vs : List V} {us : List Value} (r : Vals vs us) (i : Nat) : RelV (vs.getD i .non) (us.getD i .none) := by
  cases e : vs[i]? with
  | some v =>
    obtain ⟨u, h1, h2⟩ := r.get e
    rw [List.getD_eq_getElem?_getD, List.getD_eq_getElem?_getD, h1, e]
    exact h2
  | none =>
    have : us[i]? = none := by
      rw [List.getElem?_eq_none_iff] at e ⊢
      rw [← r.length]; exact e
    rw [List.getD_eq_getElem?_getD, List.getD_eq_getElem?_getD, this, e]
    rfl
theorem RVs.pick {K : Fg} {mg : Str → Option Value} {ι : Mp} {H : Hp} {xs : List AV} {vs : List V} (r : RVs K mg ι H xs vs) : ∀ l : List Nat, RVs K mg ι H (l.map fun i => xs.getD i .non) (l.map fun i => vs.getD i .non)
  | [] => .nil
  | i :: l => .cons (r.getD i) (RVs.pick r l)
theorem vals_pick {vs : List V} {us : List Value} (r : Vals vs us) : ∀ l : List Nat, Vals (l.map fun i => vs.getD i .non) (l.map fun i => us.getD i .none)
  | [] => .nil
  | i :: l => .cons (vals_getD r i) (vals_pick r l)
theorem REn.start {K : Fg} {mg : Str → Option Value} {ι : Mp} {H : Hp} {d : IFn} {xs : List AV} {vs : List V} (r : RVs K mg ι H xs vs) : REn K mg ι H (env0 d xs) (L2.start d.N vs) := by
  have hl := r.length
  refine ⟨by simp [env0, L2.start, hl], fun i x h => ?_⟩
  unfold env0 at h
  unfold L2.start
  by_cases hi : i < xs.length
  · rw [List.getElem?_append_left (by simpa using hi), List.getElem?_map] at h
    obtain ⟨y, h1, h2⟩ := Option.map_eq_some_iff.mp h
    cases h2
    obtain ⟨v, h3, h4⟩ := r.getA h1
    exact ⟨v, by rw [List.getElem?_append_left (by simp; omega), List.getElem?_map, h3]; rfl, h4⟩
  · rw [List.getElem?_append_right (by simpa using hi), List.getElem?_replicate] at h
    split at h <;> cases h
theorem GS.fin {K : Fg} {mg : Str → Option Value} {ι : Mp} {H : Hp} {o : SOut} {Q : VK} {E : XK} (g : GE K mg (RVr K mg) o.fin ι H Q E) : GS K mg o ι H { nx := fun _ H' => Q .non H', rt := Q } fun c d _ H' => E c d H' := by
  cases o with
  | rt v h => exact g
  | nx ρ h => exact fun ι' H' σ' e r _ => g ι' H' .non e r .non
  | ex e ρ h => exact fun ι' H' σ' c d e1 r _ rx => g ι' H' c d e1 r rx
  | _ => exact g.elim
theorem Prg.arr_len {G : Prg} {f : Str} {vs kvs as : List AV} {ks : List Str} (h : G.arr f vs ks kvs = some as) : ∃ sh ∈ G.shp f, sh.n = vs.length ∧ sh.ks = ks ∧ kvs.length = ks.length ∧ as = sh.pick.map fun i => (vs ++ kvs).getD i .non := by
  unfold Prg.arr at h
  obtain ⟨sh, h1, rfl⟩ := Option.map_eq_some_iff.mp h
  have h2 := List.find?_some h1
  simp only [Shp.fits, Bool.and_eq_true, beq_iff_eq, decide_eq_true_eq] at h2
  exact ⟨sh, List.mem_of_find?_eq_some h1, h2.1.1, h2.1.2, h2.2, rfl⟩
section
variable {P : Program} {w : World} {K : Fg} {mg : Str → Option Value} {base : Heap} {G : Prg} {bl fs : List Str}
theorem callN_ok (O : PrgOk K mg G bl fs) : ∀ (n : Nat) (A : Around), Room n A → A.guards = some [] → Fns P w K mg base A (G.tb (callN G n))
  | 0, A, _, _ => ⟨fun f vs ks kvs as h a _ _ outer s H us xs ws zs ι Q E _ _ _ _ _ _ g => g.elim⟩
  | n + 1, A, hr, hg => by
    refine ⟨fun f vs ks kvs as h a hm har outer s H us xs ws zs ι Q E e0 rx rz R r1 r2 g => ?_⟩
    change GE K mg (RVr K mg) (callN G (n + 1) f as h) ι H Q E at g
    unfold callN at g
    cases hd : G.fns f with
    | none => rw [hd] at g; exact g.elim
    | some d =>
      rw [hd] at g
      simp only at g
      split at g
      · rename_i hl
        obtain ⟨a', name, qual, params, body, scope, dV, kV, doc, pm, an, cdv, ct, oc, od, osl, m1, lk, hcd, S, fk, ck, hb⟩ := (O.fn f d hd).ex
        rw [hm] at m1
        cases m1
        obtain ⟨sh, hs, q1, q2, q3, q4⟩ := Prg.arr_len har
        obtain ⟨p1, p2⟩ := hb sh hs
        subst q2
        have lu : us.length = sh.n := by rw [q1, ← rx.length, ← r1.length]
        have lw : ws.length = sh.ks.length := by rw [← q3, ← rz.length, ← r2.length]
        have B := p2 s us ws (e0.mod.kin.keeps fun b o e => (e0.bs b o e).1) lu lw
        have rv := vals_pick (rx.append rz) sh.pick
        have ra : RVs K mg ι H as (sh.pick.map fun i => (xs ++ zs).getD i .non) := by rw [q4]; exact (r1.append r2).pick sh.pick
        have lp : (sh.pick.map fun i => (xs ++ zs).getD i V.non).length = d.ps.length := by rw [List.length_map]; exact p1
        have KX : K.In s.heap := e0.mod.kin.keeps fun b o e => (e0.bs b o e).1
        have lim : s.heap.NoLimit := e0.mod.nolimit.keeps fun b o e => (e0.bs b o e).1
        generalize hys : (sh.pick.map fun i => (xs ++ zs).getD i V.non) = ys at rv ra lp
        generalize hbs : (sh.pick.map fun i => (us ++ ws).getD i Value.none) = bs at rv B
        refine codeAny_call_function hr.depth (KX _ _ lk) rfl S.co S.gen rfl (PySem.W.codeRec_of KX hcd) (B _ _ _ _ ?_)
        refine wpAny_newFunctionEnv_cells S.kind (fun ⟨x, v⟩ hy => ?_) fun env he s1 x => ?_
        · rcases S.par x (List.of_mem_zip hy).1 with q | q
          · exact .inl q
          · exact .inr ⟨q, PySem.W.cellsFrom_some _ _ _ (.inl q)⟩
        · subst he
          refine ⟨lim.keeps x.toInCall.keep, codeAny_func ?_⟩
          have I := inv_start (CX := L2.CX P w) (P := P) (w := w) (mg := mg) (E := E) S hr.hd e0 lp rv x
          have F := callN_ok O n (A.deeper (PyProof.Rows.envOfC qual scope s.heap.objs.size a cdv)) (hr.deeper _) hg
          have c : Cd (cxOf (L2.CX P w) P w K mg base d.N qual scope a cdv A outer s H E) (G.tb (callN G n)) ⟨d.N, scope, bl, fs, fun _ => true⟩ fun c d _ H' => E c d H' :=
            { hN := rfl, nd := S.nd, hsc := rfl, calm := rfl, un := by
                have := (hr.deeper (PyProof.Rows.envOfC qual scope s.heap.objs.size a cdv)).un
                show (A.deeper (PyProof.Rows.envOfC qual scope s.heap.objs.size a cdv)).units + 200 < cLine
                omega
             
              gd := hg
              tk := takes_of rfl rfl rfl rfl, con := O.con, bl := O.bl, fn := fun _ h => rfl, fs := O.fs, fns := F, iso := O.iso _ }
          have go := (sSs c (passes_of (K := fun e s'' => L2.CX P w outer H s E e s'') rfl) fk d.body body ck).run [] s1 (L2.start d.N ys) H { nx := fun _ H' => Q .non H', rt := Q } I ⟨ι, env0 d as, h, R, REn.start ra, GS.fin g⟩
          refine wpAny_mono go (fun fl s' hs => ?_) fun e s' hs => hs
          have fin : ∀ {σ' : St} {H' : Hp} {v : V} {u : Value}, Inv (cxOf (L2.CX P w) P w K mg base d.N qual scope a cdv A outer s H E) [] σ' H' s' → RelV v u → Q v H' → CE outer P w H s Q u s' :=
            fun {σ' H' v u} J r q => ⟨v, H', J.os, J.bare, J.base, J.hok, r, q⟩
          cases fl with
          | ret u => obtain ⟨v, σ', H', J, r, q⟩ := hs; exact fin J r q
          | next => obtain ⟨σ', H', J, q⟩ := hs; exact fin (v := V.non) (u := Value.none) J rfl q
          | brk => obtain ⟨_, _, _, q⟩ := hs; exact q.elim
          | cont => obtain ⟨_, _, _, q⟩ := hs; exact q.elim
      · exact g.elim
end
end Zk
/-! Part 10b: the law's own call. -/
namespace Zk
open PySem PySem.Spec PyProof.Rows L2
theorem room_top {n : Nat} (h : n ≤ 220) : Room n callerA := by
  refine ⟨rfl, ?_, ?_⟩
  · have e1 : callerA.depth = 1 + claimMargin := rfl
    have e2 : 1 + claimMargin + 3 * 220 + 5 < recursionLimit := by decide
    omega
  · have e1 : callerA.units = 4 := rfl
    have e2 : 4 + 16 * 220 + 200 < cLine := by decide
    omega
/-- the law's def, called with the script, where Fns are kept -/
theorem lawCall {P : Program} {w : World} {K : Fg} {mg mb : Str → Option Value} {fa a : Addr} {f : Str} {s₁ : Shared} {vs : List Value} {ns : List Int} {T : Tb} {h' : AH}
    (KX : K.In s₁.heap) (hns : s₁.heap.Ns mainGlobals mg) (hb : s₁.heap.Ns builtinsNs mb) (hbb : ∀ x : Str, x ≠ "__name__" → mb x = bootBuiltins x) (hlim : s₁.heap.NoLimit) (hg : s₁.gens = #[])
    (ha : s₁.heap.get? a = some { cls := .type "list", data := .seq vs.toArray }) (hi : IntsAre vs ns) (hl : ns.length ≤ sizeLine)
    (hm : mg f = some (.ref fa)) (F : ∀ base : Heap, K.In base → base.Ns mainGlobals mg → Fns P w K mg base callerA T)
    (har : T.arr f [.lst (ns.map AV.int)] [] [] = some [.lst (ns.map AV.int)]) (hT : T.call f [.lst (ns.map AV.int)] [] = .ok (.bl true) h') :
    codeAny (model P w) callerA (.call (.ref fa) ⟨[.ref a], []⟩) (fun r s' => r = .ok (.ret (.bool true)) ∧ OldK s₁.heap s'.heap ∧ s'.os = s₁.os ∧ AllBare s'.gens) s₁ := by
  have rv := vals_ints hi
  have lenV := hi.length
  -- what is tracked: at most the script
  have main : ∀ H : Hp, Only H → SqL K H a (ns.map V.int) → HOk P w H s₁.heap → (∀ b, b ≠ a → H b = none) → (K.lookup a = none ∨ H a = none) →
      codeAny (model P w) callerA (.call (.ref fa) ⟨[.ref a], []⟩) (fun r s' => r = .ok (.ret (.bool true)) ∧ OldK s₁.heap s'.heap ∧ s'.os = s₁.os ∧ AllBare s'.gens) s₁ := by
    intro H hO hS hok hA hK
    have notD : ∀ {b : Addr} {o : Obj} {es : Array DictEntry} {ep : Nat}, s₁.heap.get? b = some o → o.data = .dict es ep → H b = none := by
      intro b o es ep e d
      by_cases hba : b = a
      · subst hba
        rw [ha] at e
        cases e
        cases (show Data.seq vs.toArray _ = Data.dict es ep from d)
      · exact hA b hba
    have nsB : ∀ {b : Addr} {m : Str → Option Value}, s₁.heap.Ns b m → (hidT s₁.heap H).Ns b m := by
      rintro b m ⟨o, es, ep, e, d, r⟩
      exact ⟨o, es, ep, hidT_get e (notD e d), d, r⟩
    have kB : K.In (hidT s₁.heap H) := by
      intro b o e
      refine hidT_get (KX b o e) ?_
      by_cases hba : b = a
      · subst hba
        rcases hK with z | z
        · rw [z] at e; cases e
        · exact z
      · exact hA b hba
    obtain ⟨mc, c1, c2⟩ := hlim
    have modB : Mod K mg (hidT s₁.heap H) := ⟨kB, nsB hns, ⟨mb, nsB hb, hbb⟩, ⟨mc, nsB c1, c2⟩⟩
    have e0 : Env0 P w K mg (hidT s₁.heap H) callerA [] s₁ H := ⟨rfl, modB, fun b o e => of_hidT e, Nat.le_of_eq (hidT_size _ _), trivial, (fun b z => nomatch z), hok, .of_eq hg⟩
    have R : Rep K mg ⟨[], []⟩ [] H := ⟨rfl, List.nodup_nil, (fun b z => nomatch z), fun i b o z => by simp at z⟩
    have rl : RV K mg ⟨[], []⟩ H (.lst (ns.map AV.int)) (.ref a) := by
      refine .lst (vs := ns.map V.int) ?_ (RVs.map (fun i => .int i) ns)
      rcases hS with z | z
      · exact .inl ⟨z, (fun z => nomatch z), (fun z => nomatch z)⟩
      · exact .inr (.inr z)
    refine codeAny_mono ((F _ kB (nsB hns)).run f [.lst (ns.map AV.int)] [] [] _ [] fa hm har [] s₁ H [.ref a] [.ref a] [] [] ⟨[], []⟩ (fun v _ => v = .bl true) (fun _ _ _ => False) e0 (.cons rfl .nil) .nil R (.cons rl .nil) .nil ?_) fun r s' hr => ?_
    · rw [hT]
      intro ι' H' b _ _ rb
      cases rb
      rfl
    · cases r with
      | error e =>
        obtain ⟨_, _, _, _, _, _, _, _, _, _, _, _, z⟩ := hr
        exact z.elim
      | ok fl =>
        cases fl with
        | next => exact hr.elim
        | brk => exact hr.elim
        | cont => exact hr.elim
        | ret u =>
          obtain ⟨v, H', os, bare, un, hok', r', q⟩ := hr
          have q : v = .bl true := q
          subst q
          have : u = Value.bool true := r'
          subst this
          refine ⟨rfl, OldK.of_keep fun b o e => ?_, os, bare⟩
          rcases hO b with z | ⟨ob, xs, z⟩
          · exact un.keep b o e z (fun z => nomatch z) (fun z => nomatch z)
          · obtain ⟨e1, _⟩ := hok b _ z
            obtain ⟨e2, _⟩ := hok' b _ (un.frzs b ob _ z)
            rw [e] at e1
            cases e1
            exact e2
  cases hk : K.lookup a with
  | some o =>
    have e := KX a o hk
    rw [ha] at e
    cases e
    refine main (fun _ => none) (fun _ => .inl rfl) (.inr ⟨_, vs.toArray, _, hk, rfl, rfl, rfl, by rw [List.size_toArray, lenV]; exact hl, by simpa using rv⟩) (fun b u z => ?_) (fun b _ => rfl) (.inr rfl)
    cases (show (none : Option HO) = some u from z)
  | none =>
    let H : Hp := fun b => if b = a then some (.frz { cls := .type "list", data := .seq vs.toArray } (.lst (ns.map V.int))) else none
    have H1 : H a = some (.frz { cls := .type "list", data := .seq vs.toArray } (.lst (ns.map V.int))) := if_pos rfl
    have H2 : ∀ b, b ≠ a → H b = none := fun b hb => if_neg hb
    refine main H (fun b => ?_) (.inl (.inr ⟨_, H1⟩)) (fun b u z => ?_) H2 (.inl hk)
    · by_cases hba : b = a
      · subst hba; exact .inr ⟨_, _, H1⟩
      · exact .inl (H2 b hba)
    · by_cases hba : b = a
      · subst hba
        rw [H1] at z
        cases z
        exact ⟨ha, by rw [List.length_map]; exact hl, vs, _, rv, ha⟩
      · rw [H2 b hba] at z; cases z
/-- what a law's proof gives: the tables are those of the text, and the law's def gives True -/
def Law (K : Fg) (mg : Str → Option Value) (f : Str) : Prop := ∀ ns : List Int, ns.length ≤ 63 → (∀ z ∈ ns, Builtin.Int.intBits z ≤ 1048576) →
  ∃ G bl fs n h', PrgOk K mg G bl fs ∧ n ≤ 220 ∧ G.arr f [.lst (ns.map AV.int)] [] [] = some [.lst (ns.map AV.int)] ∧ callN G n f [.lst (ns.map AV.int)] [] = .ok (.bl true) h'
theorem walk {l : PySem.W.OpenLaw} {q : Program} {loose : List Str} {XP : (Str → Option Value) → Heap → Prop} {YP : World → Heap → Prop} {d : DefRec} {K : Params → Fg} (hn : l.most = some 63) (hdf : d.params.defaults = [])
    (hY : ∀ (w : World) (h : Heap), YP w h → (K w.params).In h) (F : ∀ (w : World) (mg : Str → Option Value) (h : Heap), (K w.params).In h → h.Ns mainGlobals mg → Law (K w.params) mg d.name) :
    PySem.W.WalkO q loose XP YP l.row.toRowW d [] (fun f vs => PySem.call f vs) := by
  refine Att.attach_callB hn hdf fun w s₀ s₁ mg mb fa o pm cd doc a vs ns G Y ho hd hcd hmg hobj hints hlen hbits hg => ?_
  have KX := hY w _ Y
  obtain ⟨G', bl, fs, n, h', O, hn2, har, hT⟩ := F w mg _ KX G.T.g ns hlen hbits
  exact lawCall (T := G'.tb (callN G' n)) KX G.T.g G.T.b G.T.builtins G.T.nolimit hg hobj hints (Nat.le_trans hlen (by decide)) hmg (fun base _ _ => callN_ok O n callerA (room_top hn2) rfl) har hT
end Zk
/-! Part 11: what the head gives, list by list. -/
namespace Zk
open PySem L2
section
variable {K : Fg} {mg : Str → Option Value}
/-- a value that stands by itself -/
def vOf : Value → Option AV
  | .none => some .non
  | .bool b => some (.bl b)
  | .int i _ => some (.int i)
  | .str s _ => some (.str s)
  | .type n => some (.ty n)
  | _ => none
def vsOf : List Value → Option (List AV)
  | [] => some []
  | v :: vs => (vOf v).bind fun a => (vsOf vs).map (a :: ·)
/-- a written tuple of such -/
def tOf : Obj → Option AV
  | ⟨.type "tuple", none, .seq us _, _⟩ => if us.size ≤ 1000 then (vsOf us.toList).map .tup else none
  | _ => none
theorem vOf_ok {u : Value} {a : AV} (e : vOf u = some a) : ∃ w, RelV w u ∧ ∀ ι H, RV K mg ι H a w := by
  cases u <;> first
    | (cases e; exact ⟨.non, rfl, fun _ _ => .non⟩)
    | (cases e; exact ⟨.bl _, rfl, fun _ _ => .bl _⟩)
    | (cases e; exact ⟨.int _, ⟨_, rfl⟩, fun _ _ => .int _⟩)
    | (cases e; exact ⟨.str _, ⟨_, rfl⟩, fun _ _ => .str _⟩)
    | (cases e; exact ⟨.ty _, rfl, fun _ _ => .ty _⟩)
    | cases e
theorem vsOf_ok : ∀ {us : List Value} {as : List AV}, vsOf us = some as → ∃ ws, Vals ws us ∧ ∀ ι H, RVs K mg ι H as ws
  | [], _, e => by cases e; exact ⟨[], .nil, fun _ _ => .nil⟩
  | u :: us, _, e => by
    obtain ⟨a, h1, e⟩ := Option.bind_eq_some_iff.mp e
    obtain ⟨as, h2, rfl⟩ := Option.map_eq_some_iff.mp e
    obtain ⟨w, k1, k2⟩ := vOf_ok (K := K) (mg := mg) h1
    obtain ⟨ws, k3, k4⟩ := vsOf_ok h2
    exact ⟨w :: ws, .cons k1 k3, fun ι H => .cons (k2 ι H) (k4 ι H)⟩
theorem con_v {x : Str} {u : Value} {a : AV} (h : mg x = some u) (e : vOf u = some a) : ConOk K mg x a := by
  obtain ⟨w, k1, k2⟩ := vOf_ok e
  exact ⟨u, w, .inl h, k1, k2⟩
theorem con_b {x : Str} {u : Value} {a : AV} (h : mg x = none) (hb : bootBuiltins x = some u) (e : vOf u = some a) : ConOk K mg x a := by
  obtain ⟨w, k1, k2⟩ := vOf_ok e
  exact ⟨u, w, .inr ⟨h, hb⟩, k1, k2⟩
theorem con_t {x : Str} {p : Addr} {o : Obj} {a : AV} (h : mg x = some (.ref p)) (hk : K.lookup p = some o) (e : tOf o = some a) : ConOk K mg x a := by
  unfold tOf at e
  split at e
  · rename_i us n sl
    split at e
    · rename_i hz
      obtain ⟨as, h2, rfl⟩ := Option.map_eq_some_iff.mp e
      obtain ⟨ws, k3, k4⟩ := vsOf_ok (K := K) (mg := mg) h2
      exact ⟨.ref p, .ref p, .inl h, rfl, fun ι H => .tup (.inr (.inr ⟨_, us, n, hk, rfl, rfl, le_line hz, k3⟩)) (k4 ι H)⟩
    · cases e
  · cases e
theorem con_g {x : Str} {p : Addr} (h : mg x = some (.ref p)) : ConOk K mg x (.glob x) := ⟨.ref p, .ref p, .inl h, rfl, fun ι H => .glob h⟩
/-! lists of facts -/
def AllC (K : Fg) (mg : Str → Option Value) : List (Str × AV) → Prop
  | [] => True
  | p :: r => ConOk K mg p.1 p.2 ∧ AllC K mg r
theorem con_of : ∀ {l : List (Str × AV)}, AllC K mg l → ∀ {x v}, l.lookup x = some v → ConOk K mg x v
  | [], _, _, _, e => by cases e
  | (y, w) :: r, ⟨h, t⟩, x, v, e => by
    rw [List.lookup_cons] at e
    split at e
    · rename_i hb
      have := beq_iff_eq.mp hb
      subst this
      cases e
      exact h
    · exact con_of t e
def AllN (mg : Str → Option Value) : List Str → Prop
  | [] => True
  | x :: r => mg x = none ∧ AllN mg r
theorem none_of : ∀ {l : List Str}, AllN mg l → ∀ {x}, l.contains x = true → mg x = none
  | [], _, _, e => by cases e
  | y :: r, ⟨h, t⟩, x, e => by
    rw [List.contains_cons, Bool.or_eq_true] at e
    rcases e with e | e
    · have := beq_iff_eq.mp e
      rw [this]; exact h
    · exact none_of t e
def AllF (K : Fg) (mg : Str → Option Value) : List Str → Prop
  | [] => True
  | x :: r => (∃ a, mg x = some (.ref a) ∧ PySem.W.keepIn K (.ref a) = true) ∧ AllF K mg r
theorem some_of : ∀ {l : List Str}, AllF K mg l → ∀ {x}, l.contains x = true → ∃ a, mg x = some (.ref a) ∧ PySem.W.keepIn K (.ref a) = true
  | [], _, _, e => by cases e
  | y :: r, ⟨h, t⟩, x, e => by
    rw [List.contains_cons, Bool.or_eq_true] at e
    rcases e with e | e
    · have := beq_iff_eq.mp e
      rw [this]; exact h
    · exact some_of t e
def AllFn (K : Fg) (mg : Str → Option Value) (G : Prg) (bl fs : List Str) : List (Str × IFn) → Prop
  | [] => True
  | p :: r => FnFact K mg G bl fs p.1 p.2 ∧ AllFn K mg G bl fs r
theorem facts_of {G : Prg} {bl fs : List Str} : ∀ {l : List (Str × IFn)}, AllFn K mg G bl fs l → ∀ {f d}, l.lookup f = some d → FnFact K mg G bl fs f d
  | [], _, _, _, e => by cases e
  | (y, w) :: r, ⟨h, t⟩, x, v, e => by
    rw [List.lookup_cons] at e
    split at e
    · rename_i hb
      have := beq_iff_eq.mp hb
      subst this
      cases e
      exact h
    · exact facts_of t e
end
end Zk
/-! Part 12: what the laws' own small defs do. -/
namespace Zk
open PySem L2
section
variable {T : Tb} {ρ : En} {h : AH}
@[simp] theorem ev_var {i : Nat} : evE T (.var i) ρ h = match ρ[i]? with | some (some v) => .ok v h | _ => .stuck := by simp only [evE] <;> rfl
@[simp] theorem ev_cst {c : AV} : evE T (.cst c) ρ h = .ok c h := by simp only [evE]
@[simp] theorem ev_con {x : Str} : evE T (.con x) ρ h = pr (T.con x) h := by simp only [evE]
@[simp] theorem ev_bin {op : BOp} {a b : IE} : evE T (.bin op a b) ρ h = (evE T a ρ h).bind fun x h => (evE T b ρ h).bind fun y h => pr (binS op x y) h := by simp only [evE]
@[simp] theorem ev_cmp {op : COp} {a b : IE} : evE T (.cmp op a b) ρ h = (evE T a ρ h).bind fun x h => (evE T b ρ h).bind fun y h => pr ((cmpS h op x y).map .bl) h := by simp only [evE]
@[simp] theorem ev_chn {o1 o2 : COp} {a b c : IE} : evE T (.chn o1 o2 a b c) ρ h = (evE T a ρ h).bind fun x h => (evE T b ρ h).bind fun y h => match cmpS h o1 x y with | some true => (evE T c ρ h).bind fun z h => pr ((cmpS h o2 y z).map .bl) h | some false => .ok (.bl false) h | none => .stuck := by simp only [evE] <;> rfl
@[simp] theorem ev_land {a b : IE} : evE T (.land a b) ρ h = (evE T a ρ h).bind fun x h => match truS h x with | some true => evE T b ρ h | some false => .ok x h | none => .stuck := by simp only [evE] <;> rfl
@[simp] theorem ev_lor {a b : IE} : evE T (.lor a b) ρ h = (evE T a ρ h).bind fun x h => match truS h x with | some true => .ok x h | some false => evE T b ρ h | none => .stuck := by simp only [evE] <;> rfl
@[simp] theorem ev_lnot {a : IE} : evE T (.lnot a) ρ h = (evE T a ρ h).bind fun x h => pr ((truS h x).map fun k => .bl !k) h := by simp only [evE]
@[simp] theorem ev_neg {a : IE} : evE T (.neg a) ρ h = (evE T a ρ h).bind fun x h => pr ((intO x).map fun i => .int (-i)) h := by simp only [evE]
@[simp] theorem ev_ite {c : IT} {a b : IE} : evE T (.ite c a b) ρ h = (evT T c ρ h).bind fun k h => if k then evE T a ρ h else evE T b ρ h := by simp only [evE]
@[simp] theorem ev_tup {es : IEs} : evE T (.tup es) ρ h = (evEs T es ρ h).bind fun vs h => .ok (.tup vs) h := by simp only [evE]
@[simp] theorem ev_lst {m : Bool} {es : IEs} : evE T (.lst m es) ρ h = (evEs T es ρ h).bind fun vs h => mkL m vs h := by simp only [evE]
@[simp] theorem ev_dct {m : Bool} {ps : IPs} : evE T (.dct m ps) ρ h = (evP T ps ρ h).bind fun p h => mkD m p.1 p.2 h := by simp only [evE]
@[simp] theorem ev_idx {a b : IE} : evE T (.idx a b) ρ h = (evE T a ρ h).bind fun x h => (evE T b ρ h).bind fun y h => pr (idxS h x y) h := by simp only [evE]
@[simp] theorem ev_nop : evE T .nop ρ h = .ok .non h := by simp only [evE]
@[simp] theorem ev_slc {a lo hi : IE} : evE T (.slc a lo hi) ρ h = (evE T a ρ h).bind fun x h => ((evE T lo ρ h).bind fun l h => pr (partS lo.isNop l) h).bind fun l h => ((evE T hi ρ h).bind fun u h => pr (partS hi.isNop u) h).bind fun u h => pr (slcS h x l u) h := by simp only [evE]
@[simp] theorem ev_call {f : Str} {es : IEs} : evE T (.call f es) ρ h = (evEs T es ρ h).bind fun vs h => callS T f vs [] [] h := by simp only [evE]
@[simp] theorem ev_calk {f : Str} {es vs : IEs} {ks : List Str} : evE T (.calk f es ks vs) ρ h = (evEs T es ρ h).bind fun xs h => (evEs T vs ρ h).bind fun us h => callS T f xs ks us h := by simp only [evE]
@[simp] theorem ev_bi {b : Bi} {es : IEs} : evE T (.bi b es) ρ h = (evEs T es ρ h).bind fun vs h => pr (biS T h b vs) h := by simp only [evE]
@[simp] theorem ev_bm {m : Bm} {o : IE} {es : IEs} : evE T (.bm m o es) ρ h = (evE T o ρ h).bind fun x h => if tyM h m x then (evEs T es ρ h).bind fun vs h => pr2 (bmS h m x vs) else .stuck := by simp only [evE]
theorem ev_lc {m : Bool} {own : List Nat} {tg : ITg} {it : II} {c : IT} {e : IE} : evE T (.lc m own tg it c e) ρ h = (evI T it ρ h).bind fun t h => if t.len ≤ sizeLine then (lcG t (lcF T own tg c e ρ) t.len 0 [] h).bind fun ys h => mkL m ys h else .stuck := by simp only [evE] <;> rfl
@[simp] theorem evs_nil : evEs T .nil ρ h = .ok [] h := by simp only [evEs]
@[simp] theorem evs_cons {e : IE} {es : IEs} : evEs T (.cons e es) ρ h = (evE T e ρ h).bind fun x h => (evEs T es ρ h).bind fun xs h => .ok (x :: xs) h := by simp only [evEs]
@[simp] theorem evp_nil : evP T .nil ρ h = .ok ([], []) h := by simp only [evP]
@[simp] theorem evp_cons {k v : IE} {ps : IPs} : evP T (.cons k v ps) ρ h = (evE T k ρ h).bind fun x h => (evE T v ρ h).bind fun y h => (evP T ps ρ h).bind fun p h => .ok (x :: p.1, y :: p.2) h := by simp only [evP]
@[simp] theorem evt_tt : evT T .tt ρ h = .ok true h := by simp only [evT]
@[simp] theorem evt_val {e : IE} : evT T (.val e) ρ h = (evE T e ρ h).bind fun x h => pr (truS h x) h := by simp only [evT]
@[simp] theorem evt_land {a b : IT} : evT T (.land a b) ρ h = (evT T a ρ h).bind fun k h => if k then evT T b ρ h else .ok false h := by simp only [evT]
@[simp] theorem evt_lor {a b : IT} : evT T (.lor a b) ρ h = (evT T a ρ h).bind fun k h => if k then .ok true h else evT T b ρ h := by simp only [evT]
@[simp] theorem evt_lnot {a : IT} : evT T (.lnot a) ρ h = (evT T a ρ h).bind fun k h => .ok (!k) h := by simp only [evT]
@[simp] theorem evi_val {e : IE} : evI T (.val e) ρ h = (evE T e ρ h).bind fun x h => pr ((srcA h x).map .one) h := by simp only [evI]
@[simp] theorem evi_rng1 {e : IE} : evI T (.rng1 e) ρ h = (evE T e ρ h).bind fun x h => match x with | .int j => if -(2 ^ 62) ≤ j ∧ j < 2 ^ 62 then .ok (.one (.fix (rngA 0 j))) h else .stuck | _ => .stuck := by simp only [evI] <;> rfl
@[simp] theorem evi_rng2 {a b : IE} : evI T (.rng2 a b) ρ h = (evE T a ρ h).bind fun x h => (evE T b ρ h).bind fun y h => match x, y with | .int i, .int j => if -(2 ^ 62) ≤ i ∧ i < 2 ^ 62 ∧ -(2 ^ 62) ≤ j ∧ j < 2 ^ 62 then .ok (.one (.fix (rngA i j))) h else .stuck | _, _ => .stuck := by simp only [evI] <;> rfl
@[simp] theorem evi_enum {e : IE} : evI T (.enum e) ρ h = (evE T e ρ h).bind fun x h => pr ((srcL h x).map .enum) h := by simp only [evI]
@[simp] theorem evg_nm {i : Nat} {v : AV} : evG T (.nm i) v ρ h = if i < ρ.length then .ok (ρ.set i (some v)) h else .stuck := by simp only [evG]
@[simp] theorem evg_tp {ts : SGs} {xs : List AV} : evG T (.tp ts) (.tup xs) ρ h = evGs T ts xs ρ h := by simp only [evG]
@[simp] theorem evg_sub {o k : IE} {v : AV} : evG T (.sub o k) v ρ h = (evE T o ρ h).bind fun x h => (evE T k ρ h).bind fun y h => prH (setS h x y v) ρ := by simp only [evG]
@[simp] theorem evgs_nil : evGs T .nil [] ρ h = .ok ρ h := by simp only [evGs]
@[simp] theorem evgs_cons {t : SG} {ts : SGs} {x : AV} {xs : List AV} : evGs T (.cons t ts) (x :: xs) ρ h = match evG T t x ρ h with | .ok ρ h => evGs T ts xs ρ h | _ => .stuck := by simp only [evGs] <;> rfl
@[simp] theorem ex_expr {e : IE} : exS T (.expr e) ρ h = (evE T e ρ h).go ρ fun _ h => .nx ρ h := by simp only [exS]
@[simp] theorem ex_asg {t : SG} {e : IE} : exS T (.asg t e) ρ h = (evE T e ρ h).go ρ fun v h => match evG T t v ρ h with | .ok ρ h => .nx ρ h | _ => .stuck := by simp only [exS] <;> rfl
@[simp] theorem ex_asgL {i : Nat} {e : IE} : exS T (.asgL i e) ρ h = (evE T e ρ h).go ρ fun v h => if i < ρ.length then .nx (ρ.set i (some v)) h else .stuck := by simp only [exS]
@[simp] theorem ex_par {i j : Nat} {es : IEs} : exS T (.par i j es) ρ h = (evEs T es ρ h).go ρ fun vs h => match vs with | [v, w] => .nx ((ρ.set i (some v)).set j (some w)) h | _ => .stuck := by simp only [exS] <;> rfl
@[simp] theorem ex_ret {e : IE} : exS T (.ret e) ρ h = (evE T e ρ h).go ρ fun v h => .rt v h := by simp only [exS]
@[simp] theorem ex_retN : exS T .retN ρ h = .rt .non h := by simp only [exS]
@[simp] theorem ex_if {t : IT} {a b : ISs} : exS T (.ifS t a b) ρ h = (evT T t ρ h).go ρ fun k h => if k then exSs T a ρ h else exSs T b ρ h := by simp only [exS]
theorem ex_for {tg : ITg} {it : II} {b : ISs} : exS T (.forS tg it b) ρ h = (evI T it ρ h).go ρ fun t h => forG t tg (fun ρ h => exSs T b ρ h) t.len 0 ρ h := by simp only [exS]
theorem ex_whl {t : IT} {b : ISs} : exS T (.whl t b) ρ h = whG (fun ρ h => evT T t ρ h) (fun ρ h => exSs T b ρ h) T.fu ρ h := by simp only [exS]
@[simp] theorem ex_brk : exS T .brk ρ h = .bk ρ h := by simp only [exS]
@[simp] theorem ex_cont : exS T .cont ρ h = .ct ρ h := by simp only [exS]
@[simp] theorem ex_pass : exS T .pass ρ h = .nx ρ h := by simp only [exS]
@[simp] theorem exs_nil : exSs T .nil ρ h = .nx ρ h := by simp only [exSs]
@[simp] theorem exs_cons {s : IS} {ss : ISs} : exSs T (.cons s ss) ρ h = (exS T s ρ h).seq fun ρ h => exSs T ss ρ h := by simp only [exSs]
end
section
variable {Gp : Prg} {c : Str → List AV → AH → Out AV}
@[simp] theorem tb_con : (Gp.tb c).con = Gp.con := rfl
@[simp] theorem tb_call : (Gp.tb c).call = c := rfl
@[simp] theorem tb_arr : (Gp.tb c).arr = Gp.arr := rfl
@[simp] theorem tb_fu : (Gp.tb c).fu = Gp.fu := rfl
theorem call_s {f : Str} {vs us as : List AV} {ks : List Str} {h : AH} (e : Gp.arr f vs ks us = some as) : callS (Gp.tb c) f vs ks us h = c f as h := by
  unfold callS
  rw [tb_arr, e]
  rfl
end
section
variable {h : AH}
@[simp] theorem tru_non : truS h .non = some false := rfl
@[simp] theorem tru_bl (b : Bool) : truS h (.bl b) = some b := rfl
@[simp] theorem tru_int (i : Int) : truS h (.int i) = some (i != 0) := rfl
@[simp] theorem tru_lst (xs : List AV) : truS h (.lst xs) = some (!xs.isEmpty) := rfl
@[simp] theorem tru_tup (xs : List AV) : truS h (.tup xs) = some (!xs.isEmpty) := rfl
@[simp] theorem bin_add (a b : AV) : binS .add a b = addS a b := rfl
@[simp] theorem add_ii (i j : Int) : addS (.int i) (.int j) = some (.int (i + j)) := rfl
@[simp] theorem bin_sub (i j : Int) : binS .sub (.int i) (.int j) = some (.int (i - j)) := rfl
@[simp] theorem cmp_eq (x y : AV) : cmpS h .eq x y = eqS h x y := rfl
@[simp] theorem cmp_ne (x y : AV) : cmpS h .ne x y = (eqS h x y).map (!·) := rfl
@[simp] theorem cmp_lt (i j : Int) : cmpS h .lt (.int i) (.int j) = some (decide (i < j)) := rfl
@[simp] theorem cmp_le (i j : Int) : cmpS h .le (.int i) (.int j) = some (decide (i ≤ j)) := rfl
@[simp] theorem cmp_gt (i j : Int) : cmpS h .gt (.int i) (.int j) = some (decide (j < i)) := rfl
@[simp] theorem cmp_ge (i j : Int) : cmpS h .ge (.int i) (.int j) = some (decide (j ≤ i)) := rfl
@[simp] theorem cmp_in (x y : AV) : cmpS h .isin x y = inS h x y := rfl
@[simp] theorem cmp_nin (x y : AV) : cmpS h .notin x y = (inS h x y).map (!·) := rfl
@[simp] theorem cmp_isN (x : AV) : cmpS h .isN x .non = some (noneB x) := rfl
@[simp] theorem cmp_notN (x : AV) : cmpS h .notN x .non = some (!noneB x) := rfl
@[simp] theorem eq_ii (i j : Int) : eqS h (.int i) (.int j) = some (i == j) := rfl
@[simp] theorem eq_bb (i j : Bool) : eqS h (.bl i) (.bl j) = some (i == j) := rfl
@[simp] theorem eq_ss (i j : Str) : eqS h (.str i) (.str j) = some (i == j) := rfl
theorem add_ll {xs ys : List AV} (c : xs.length + ys.length ≤ 16777216) : addS (.lst xs) (.lst ys) = some (.lst (xs ++ ys)) := if_pos (Nat.le_trans c (by decide))
theorem add_tt {xs ys : List AV} (c : xs.length + ys.length ≤ 16777216) : addS (.tup xs) (.tup ys) = some (.tup (xs ++ ys)) := if_pos (Nat.le_trans c (by decide))
theorem add_ss {x y : Str} (c : x.length + y.length ≤ 16777216) : addS (.str x) (.str y) = some (.str (x ++ y)) := if_pos (Nat.le_trans c (by decide))
theorem bin_mod {i j : Int} (c : 0 < j) : binS .mod (.int i) (.int j) = some (.int (i % j)) := if_pos c
theorem bin_div {i j : Int} (c : 0 < j) (d : j < 1073741824) : binS .fdiv (.int i) (.int j) = some (.int (i / j)) := if_pos ⟨c, d⟩
theorem bin_mul {i j : Int} (c : (-(2 ^ 64) < i ∧ i < 2 ^ 64) ∨ (-(2 ^ 64) < j ∧ j < 2 ^ 64)) : binS .mul (.int i) (.int j) = some (.int (i * j)) := if_pos c
theorem bin_pow {i j : Int} (c : 0 ≤ j ∧ j ≤ 1000000 ∧ i.natAbs < 2 ^ 64) : binS .pow (.int i) (.int j) = some (.int (i ^ j.toNat)) := if_pos c
end
theorem Str.ne_of {a b : Str} (h : decide (a = b) = false) : (a = b) = False := by simpa using h
/-- the state's keys -/
def stK : List Key := [.inr "great", .inr "rest", .inr "turn", .inr "seed", .inr "cells"]
/-- the state as it stands: its dict at r, its great cells at g -/
structure Sv (h : AH) (r g : Nat) (gr cs : List Int) (rest turn seed : Int) : Prop where
  d : h[r]? = some (.dct stK [.ref g, .int rest, .int turn, .int seed, .lst (cs.map AV.int)])
  l : h[g]? = some (.lst (gr.map AV.int))
  ne : r ≠ g
/-- a good state, for so many takes -/
structure St (h : AH) (r g : Nat) (b : Nat) : Prop where
  ex : ∃ (gr cs : List Int) (rest turn seed : Int), Sv h r g gr cs rest turn seed ∧ (∀ x ∈ gr, 0 < x) ∧ 0 ≤ rest ∧ 0 ≤ turn ∧ turn + b ≤ 2 ^ 62 ∧ 0 ≤ seed ∧ seed < 2147483648 ∧ cs ≠ [] ∧ cs.length ≤ 64 ∧ ∀ x ∈ cs, 0 ≤ x ∧ x < 2147483648
/-- nothing else has changed -/
def Fr (h h' : AH) (r g : Nat) : Prop := h'.length = h.length ∧ ∀ i, i ≠ r → i ≠ g → h'[i]? = h[i]?
def dTake : IFn where
  ps := ["state", "many"]
  N := ["state", "many", "turn", "cell", "seed", "mixed", "found"]
  body := (.cons (.ifS (.land (.val (.cmp .eq (.idx (.var 0) (.cst (.str "rest"))) (.cst (.int 0)))) (.val (.cmp .ne (.idx (.var 0) (.cst (.str "great"))) (.lst false .nil)))) (.cons (.asg (.sub (.var 0) (.cst (.str "rest"))) (.bm .popAt (.idx (.var 0) (.cst (.str "great"))) (.cons (.cst (.int 0)) .nil))) .nil) .nil) (.cons (.ifS (.val (.cmp .gt (.idx (.var 0) (.cst (.str "rest"))) (.cst (.int 0)))) (.cons (.asg (.nm 6) (.bin .mod (.idx (.var 0) (.cst (.str "rest"))) (.var 1))) (.cons (.asg (.sub (.var 0) (.cst (.str "rest"))) (.bin .fdiv (.idx (.var 0) (.cst (.str "rest"))) (.var 1))) (.cons (.ret (.var 6)) .nil))) .nil) (.cons (.asg (.nm 2) (.idx (.var 0) (.cst (.str "turn")))) (.cons (.asg (.sub (.var 0) (.cst (.str "turn"))) (.bin .add (.var 2) (.cst (.int 1)))) (.cons (.asg (.nm 3) (.idx (.idx (.var 0) (.cst (.str "cells"))) (.bin .mod (.var 2) (.bi .len (.cons (.idx (.var 0) (.cst (.str "cells"))) .nil))))) (.cons (.asg (.nm 4) (.bin .mod (.bin .add (.bin .add (.bin .mul (.idx (.var 0) (.cst (.str "seed"))) (.cst (.int 48271))) (.bin .mul (.var 3) (.bin .add (.bin .mul (.cst (.int 2)) (.var 2)) (.cst (.int 3))))) (.bin .pow (.var 2) (.cst (.int 3)))) (.cst (.int 2147483647)))) (.cons (.asg (.sub (.var 0) (.cst (.str "seed"))) (.var 4)) (.cons (.asg (.nm 5) (.bin .add (.bin .mul (.bin .mod (.bin .pow (.var 4) (.cst (.int 2))) (.cst (.int 2147483629))) (.cst (.int 2147483587))) (.bin .mod (.bin .pow (.var 4) (.cst (.int 3))) (.cst (.int 2147483579))))) (.cons (.ret (.bin .mod (.bin .fdiv (.var 5) (.cst (.int 7))) (.var 1))) .nil)))))))))
theorem key_ne {a b : Str} (h : decide (a = b) = false) : ((Sum.inr a : Key) = Sum.inr b) = False := by
  have : ¬ a = b := by simpa using h
  simp [this]
theorem Fr.refl {h : AH} {r g : Nat} : Fr h h r g := ⟨rfl, fun _ _ _ => rfl⟩
theorem Fr.trans {h h1 h2 : AH} {r g : Nat} (a : Fr h h1 r g) (b : Fr h1 h2 r g) : Fr h h2 r g := ⟨b.1.trans a.1, fun i h1 h2 => (b.2 i h1 h2).trans (a.2 i h1 h2)⟩
theorem Fr.set {h : AH} {r g i : Nat} {o : AObj} (hi : i = r ∨ i = g) : Fr h (h.set i o) r g := ⟨by simp, fun j h1 h2 => by
  rw [List.getElem?_set_ne]
  rintro rfl
  exact hi.elim h1 h2⟩
theorem St.mono {h : AH} {r g b c : Nat} (S : St h r g b) (hc : c ≤ b) : St h r g c := by
  obtain ⟨gr, cs, rest, turn, seed, k, h1, h2, h3, h4, h5⟩ := S.ex
  exact ⟨gr, cs, rest, turn, seed, k, h1, h2, h3, by omega, h5⟩
/-- what a def does ahead of anything else leaves the state -/
theorem St.keep {h h' : AH} {r g b : Nat} (S : St h r g b) (hr : h'[r]? = h[r]?) (hg : h'[g]? = h[g]?) : St h' r g b := by
  obtain ⟨gr, cs, rest, turn, seed, ⟨k1, k2, k3⟩, q⟩ := S.ex
  exact ⟨gr, cs, rest, turn, seed, ⟨hr.trans k1, hg.trans k2, k3⟩, q⟩
theorem idx_dk {h : AH} {r : Nat} {ks : List Key} {vs : List AV} (e : h[r]? = some (.dct ks vs)) (k : Str) : idxS h (.ref r) (.str k) = atKey (.inr k) ks vs := by
  have : deref h (.ref r) = .dct ks vs := by simp only [deref, e]
  unfold idxS
  rw [this]
  rfl
section
variable {h : AH} {r g : Nat} {gr cs : List Int} {rs tn sd : Int}
theorem Sv.rest (S : Sv h r g gr cs rs tn sd) : idxS h (.ref r) (.str "rest") = some (.int rs) := by rw [idx_dk S.d]; rfl
theorem Sv.great (S : Sv h r g gr cs rs tn sd) : idxS h (.ref r) (.str "great") = some (.ref g) := by rw [idx_dk S.d]; rfl
theorem Sv.turn (S : Sv h r g gr cs rs tn sd) : idxS h (.ref r) (.str "turn") = some (.int tn) := by rw [idx_dk S.d]; rfl
theorem Sv.seed (S : Sv h r g gr cs rs tn sd) : idxS h (.ref r) (.str "seed") = some (.int sd) := by rw [idx_dk S.d]; rfl
theorem Sv.cells (S : Sv h r g gr cs rs tn sd) : idxS h (.ref r) (.str "cells") = some (.lst (cs.map AV.int)) := by rw [idx_dk S.d]; rfl
theorem lt_of {α : Type} {l : List α} {i : Nat} {x : α} (e : l[i]? = some x) : i < l.length := (List.getElem?_eq_some_iff.mp e).1
theorem Sv.put {cs' : List Int} {rest' turn' seed' : Int} {k : Str} {v : AV} (S : Sv h r g gr cs rs tn sd) (e : putD (.inr k) v stK [.ref g, .int rs, .int tn, .int sd, .lst (cs.map AV.int)] = .dct stK [.ref g, .int rest', .int turn', .int seed', .lst (cs'.map AV.int)]) :
    ∃ h', setS h (.ref r) (.str k) v = some h' ∧ Sv h' r g gr cs' rest' turn' seed' ∧ Fr h h' r g := by
  refine ⟨h.set r (.dct stK [.ref g, .int rest', .int turn', .int seed', .lst (cs'.map AV.int)]), ?_, ⟨?_, ?_, S.ne⟩, .set (.inl rfl)⟩
  · unfold setS
    simp only [S.d, keyA, Option.bind_some]
    rw [if_pos (by decide), e]
  · rw [List.getElem?_set_self (lt_of S.d)]
  · rw [List.getElem?_set_ne S.ne]; exact S.l
theorem Sv.pop {x : Int} (S : Sv h r g (x :: gr) cs rs tn sd) : tyM h .popAt (.ref g) = true ∧ ∃ h', bmS h .popAt (.ref g) [.int 0] = some (.int x, h') ∧ Sv h' r g gr cs rs tn sd ∧ Fr h h' r g := by
  have e := S.l
  refine ⟨by unfold tyM; simp only [bmT, e], h.set g (.lst (gr.map AV.int)), ?_, ⟨?_, ?_, S.ne⟩, .set (.inr rfl)⟩
  · unfold bmS
    simp only [intO, numL, e, Option.bind_some]
    rw [if_pos (by decide)]
    have : seqIndex? 0 (List.map AV.int (x :: gr)).length = some 0 := by
      unfold seqIndex?
      simp
    rw [this]
    rfl
  · rw [List.getElem?_set_ne S.ne.symm]; exact S.d
  · rw [List.getElem?_set_self (lt_of e)]
end
theorem atI_in {α : Type} {xs : List α} {i : Int} (h0 : 0 ≤ i) (h1 : i < (xs.length : Nat)) : atI xs i = xs[i.toNat]? := by
  unfold atI ixN
  rw [if_pos h0, if_pos h1]
  rfl
theorem datAs_ints {h : AH} {n : Nat} : ∀ l : List Int, datAs h n (l.map AV.int) = some (l.map PyData.int)
  | [] => rfl
  | x :: l => by
    rw [List.map_cons, List.map_cons, datAs, datAs_ints l]
    rfl
theorem lay_ints : ∀ l : List Int, PyData.canLayAll0 (l.map PyData.int) = true ∧ PyData.depthAll (l.map PyData.int) = 0
  | [] => ⟨rfl, rfl⟩
  | x :: l => by
    obtain ⟨h1, h2⟩ := lay_ints l
    rw [List.map_cons, PyData.canLayAll0, PyData.depthAll, h1, h2]
    exact ⟨rfl, rfl⟩
theorem shaped_ints (l : List Int) : SeqAt.shaped (.list (l.map PyData.int)) = true := by
  obtain ⟨h1, h2⟩ := lay_ints l
  unfold SeqAt.shaped
  rw [PyData.canLay0, PyData.depth, h1, h2]
  rfl
/-- great != [] -/
theorem ne_nil {h : AH} {g : Nat} {l : List Int} (e : h[g]? = some (.lst (l.map AV.int))) : eqS h (.ref g) (.lst []) = some l.isEmpty := by
  unfold eqS
  have e1 : deref h (.ref g) = .lst (l.map AV.int) := by simp [deref, e]
  have e2 : deref h (.lst []) = .lst [] := rfl
  rw [if_neg (by simp [flatA]), e1, e2]
  simp only [datA, datAs_ints, datAs, Option.map_some]
  rw [if_pos (by rw [shaped_ints]; exact shaped_ints [])]
  cases l <;> rfl
theorem take_ok {G : Prg} (hf : G.fns "_law_take" = some dTake) {n : Nat} {h : AH} {r g b : Nat} {many : Int} (S : St h r g (b + 1)) (h0 : 0 < many) (h1 : many < 1073741824) :
    ∃ v h', callN G (n + 1) "_law_take" [.ref r, .int many] h = .ok (.int v) h' ∧ 0 ≤ v ∧ v < many ∧ St h' r g b ∧ Fr h h' r g := by
  obtain ⟨gr, cs, rest, turn, seed, k, hgr, hr, ht, htb, hs, hs2, hcs, hcl, hc⟩ := S.ex
  unfold callN
  rw [hf]
  simp only [dTake, env0, List.length_cons, List.length_nil, if_true, List.map_cons, List.map_nil]
  by_cases c1 : rest = 0
  · cases gr with
    | cons x gr =>
      subst c1
      obtain ⟨p1, h2, p2, k2, f2⟩ := k.pop
      obtain ⟨h3, p3, k3, f3⟩ := k2.put (k := "rest") (v := .int x) (rest' := x) (turn' := turn) (seed' := seed) (cs' := cs) rfl
      obtain ⟨h4, p4, k4, f4⟩ := k3.put (k := "rest") (v := .int (x / many)) (rest' := x / many) (turn' := turn) (seed' := seed) (cs' := cs) rfl
      have hx := hgr x List.mem_cons_self
      refine ⟨x % many, h4, ?_, Int.emod_nonneg _ (by omega), Int.emod_lt_of_pos _ h0, ⟨gr, cs, x / many, turn, seed, k4, fun y hy => hgr y (List.mem_cons_of_mem _ hy), Int.ediv_nonneg (by omega) (by omega), ht, by omega, hs, hs2, hcs, hcl, hc⟩, (f2.trans f3).trans f4⟩
      simp [k.rest, k.great, ne_nil k.l, mkL, p1, p2, pr2, p3, prH, k3.rest, hx, bin_mod h0, bin_div h0 h1, p4, SOut.fin]
    | nil =>
      subst c1
      have hcl' : (0 : Int) < (cs.length : Nat) := by
        cases cs with
        | nil => exact absurd rfl hcs
        | cons _ _ => simp only [List.length_cons]; omega
      have hi0 := Int.emod_nonneg turn (show ((cs.length : Nat) : Int) ≠ 0 by omega)
      have hi1 := Int.emod_lt_of_pos turn hcl'
      obtain ⟨cell, hcell⟩ : ∃ cell, cs[(turn % (cs.length : Nat)).toNat]? = some cell := ⟨_, List.getElem?_eq_getElem (by omega)⟩
      have cc := hc cell (List.mem_of_getElem? hcell)
      have hat : atI (cs.map AV.int) (turn % (cs.length : Nat)) = some (.int cell) := by
        rw [atI_in hi0 (by rw [List.length_map]; exact hi1), List.getElem?_map, hcell]
        rfl
      obtain ⟨h3, p3, k3, f3⟩ := k.put (k := "turn") (v := .int (turn + 1)) (rest' := 0) (turn' := turn + 1) (seed' := seed) (cs' := cs) rfl
      obtain ⟨sd, hsd⟩ : ∃ sd, sd = (seed * 48271 + cell * (2 * turn + 3) + turn ^ 3) % 2147483647 := ⟨_, rfl⟩
      have sd0 : 0 ≤ sd := by rw [hsd]; exact Int.emod_nonneg _ (by decide)
      have sd1 : sd < 2147483647 := by rw [hsd]; exact Int.emod_lt_of_pos _ (by decide)
      obtain ⟨h4, p4, k4, f4⟩ := k3.put (k := "seed") (v := .int sd) (rest' := 0) (turn' := turn + 1) (seed' := sd) (cs' := cs) rfl
      have m1 : binS .mul (.int seed) (.int 48271) = some (.int (seed * 48271)) := bin_mul (.inr (by decide))
      have m2 : binS .mul (.int cell) (.int (2 * turn + 3)) = some (.int (cell * (2 * turn + 3))) := bin_mul (.inl (by omega))
      have m3 : binS .mul (.int 2) (.int turn) = some (.int (2 * turn)) := bin_mul (.inl (by decide))
      have q1 : binS .pow (.int turn) (.int 3) = some (.int (turn ^ 3)) := bin_pow ⟨by decide, by decide, by omega⟩
      have q2 : binS .pow (.int sd) (.int 2) = some (.int (sd ^ 2)) := bin_pow ⟨by decide, by decide, by omega⟩
      have q3 : binS .pow (.int sd) (.int 3) = some (.int (sd ^ 3)) := bin_pow ⟨by decide, by decide, by omega⟩
      have d1 : ∀ x : Int, binS .mod (.int x) (.int 2147483647) = some (.int (x % 2147483647)) := fun x => bin_mod (by decide)
      have d2 : ∀ x : Int, binS .mod (.int x) (.int 2147483629) = some (.int (x % 2147483629)) := fun x => bin_mod (by decide)
      have d3 : ∀ x : Int, binS .mod (.int x) (.int 2147483579) = some (.int (x % 2147483579)) := fun x => bin_mod (by decide)
      have m4 : ∀ x : Int, binS .mul (.int x) (.int 2147483587) = some (.int (x * 2147483587)) := fun x => bin_mul (.inr (by decide))
      have d4 : ∀ x : Int, binS .fdiv (.int x) (.int 7) = some (.int (x / 7)) := fun x => bin_div (by decide) (by decide)
      have tm : binS .mod (.int turn) (.int (cs.length : Nat)) = some (.int (turn % (cs.length : Nat))) := bin_mod hcl'
      have ln : ∀ h : AH, biS (G.tb (callN G n)) h .len [.lst (cs.map AV.int)] = some (.int (cs.length : Nat)) := fun h => by
        show some (AV.int ((cs.map AV.int).length : Nat)) = _
        rw [List.length_map]
      have ic : ∀ h : AH, idxS h (.lst (cs.map AV.int)) (.int (turn % (cs.length : Nat))) = some (.int cell) := fun h => hat
      refine ⟨(sd ^ 2 % 2147483629 * 2147483587 + sd ^ 3 % 2147483579) / 7 % many, h4, ?_, Int.emod_nonneg _ (by omega), Int.emod_lt_of_pos _ h0, ⟨[], cs, 0, turn + 1, sd, k4, by simp, by decide, by omega, by omega, sd0, by omega, hcs, hcl, hc⟩, f3.trans f4⟩
      simp [k.rest, k.great, ne_nil k.l, mkL, k.turn, p3, prH, k3.cells, k3.seed, ln, tm, ic, m1, m2, m3, q1, q2, q3, d1, d2, d3, d4, m4, ← hsd, p4, bin_mod h0, SOut.fin]
  · have hr0 : 0 < rest := by omega
    obtain ⟨h4, p4, k4, f4⟩ := k.put (k := "rest") (v := .int (rest / many)) (rest' := rest / many) (turn' := turn) (seed' := seed) (cs' := cs) rfl
    refine ⟨rest % many, h4, ?_, Int.emod_nonneg _ (by omega), Int.emod_lt_of_pos _ h0, ⟨gr, cs, rest / many, turn, seed, k4, hgr, Int.ediv_nonneg (by omega) (by omega), ht, by omega, hs, hs2, hcs, hcl, hc⟩, f4⟩
    simp [k.rest, c1, hr0, bin_mod h0, bin_div h0 h1, p4, prH, SOut.fin]
end Zk
/-! Part 12b: loops by invariants; the state's beginning; picking. -/
namespace Zk
open PySem L2
theorem sizeLine_big' : 16777216 ≤ sizeLine := by decide
section
variable {h : AH} {xs : List AV}
/-- a comprehension that leaves the heap -/
theorem lcG_pure {f : AV → AH → Out (Option AV)} {F : AV → Option AV} (hf : ∀ x ∈ xs, f x h = .ok (F x) h) : ∀ (k i : Nat) (acc : List AV), i + k = xs.length → lcG (.one (.fix xs)) f k i acc h = .ok (acc ++ (xs.drop i).filterMap F) h
  | 0, i, acc, e => by
    have : xs.drop i = [] := List.drop_eq_nil_of_le (by omega)
    rw [this, List.filterMap_nil, List.append_nil]
    rfl
  | k + 1, i, acc, e => by
    have hi : i < xs.length := by omega
    have e1 : xs.drop i = xs[i] :: xs.drop (i + 1) := List.drop_eq_getElem_cons hi
    have e2 : xs[i]? = some xs[i] := List.getElem?_eq_getElem hi
    have e3 := hf xs[i] (List.getElem_mem hi)
    unfold lcG
    simp only [AIt.fin, ASrc.fin, AIt.get, ASrc.get, if_true, e2, e3]
    rw [e1, List.filterMap_cons]
    cases F xs[i] with
    | none => exact lcG_pure hf k (i + 1) acc (by omega)
    | some y =>
      simp only
      rw [lcG_pure hf k (i + 1) (acc ++ [y]) (by omega), List.append_assoc]
      rfl
/-- a comprehension by an invariant -/
theorem lcG_inv {f : AV → AH → Out (Option AV)} {P : Nat → List AV → AH → Prop}
    (step : ∀ i x acc h, xs[i]? = some x → P i acc h → (∃ y h', f x h = .ok (some y) h' ∧ P (i + 1) (acc ++ [y]) h') ∨ (∃ h', f x h = .ok none h' ∧ P (i + 1) acc h')) :
    ∀ (k i : Nat) (acc : List AV) (h : AH), i + k = xs.length → P i acc h → ∃ acc' h', lcG (.one (.fix xs)) f k i acc h = .ok acc' h' ∧ P xs.length acc' h'
  | 0, i, acc, h, e, p => by
    have : i = xs.length := by omega
    subst this
    exact ⟨acc, h, rfl, p⟩
  | k + 1, i, acc, h, e, p => by
    have hi : i < xs.length := by omega
    have e2 : xs[i]? = some xs[i] := List.getElem?_eq_getElem hi
    unfold lcG
    simp only [AIt.fin, ASrc.fin, AIt.get, ASrc.get, if_true, e2]
    rcases step i xs[i] acc h e2 p with ⟨y, h', e3, p'⟩ | ⟨h', e3, p'⟩
    · simp only [e3]
      exact lcG_inv step k (i + 1) (acc ++ [y]) h' (by omega) p'
    · simp only [e3]
      exact lcG_inv step k (i + 1) acc h' (by omega) p'
/-- a for by an invariant -/
theorem forG_inv {tg : ITg} {b : En → AH → SOut} {P : Nat → En → AH → Prop}
    (step : ∀ i x ρ h, xs[i]? = some x → P i ρ h → ∃ ρ1, asgT tg x ρ = some ρ1 ∧ ∃ ρ' h', (b ρ1 h = .nx ρ' h' ∨ b ρ1 h = .ct ρ' h') ∧ P (i + 1) ρ' h') :
    ∀ (k i : Nat) (ρ : En) (h : AH), i + k = xs.length → P i ρ h → ∃ ρ' h', forG (.one (.fix xs)) tg b k i ρ h = .nx ρ' h' ∧ P xs.length ρ' h'
  | 0, i, ρ, h, e, p => by
    have : i = xs.length := by omega
    subst this
    exact ⟨ρ, h, rfl, p⟩
  | k + 1, i, ρ, h, e, p => by
    have hi : i < xs.length := by omega
    have e2 : xs[i]? = some xs[i] := List.getElem?_eq_getElem hi
    unfold forG
    simp only [AIt.fin, ASrc.fin, AIt.get, ASrc.get, if_true, e2]
    obtain ⟨ρ1, e3, ρ', h', e4, p'⟩ := step i xs[i] ρ h e2 p
    simp only [e3]
    rcases e4 with e4 | e4
    · simp only [e4]
      exact forG_inv step k (i + 1) ρ' h' (by omega) p'
    · simp only [e4]
      exact forG_inv step k (i + 1) ρ' h' (by omega) p'
end
/-- a comprehension over things that stand -/
theorem ev_lcV {T : Tb} {ρ : En} {h h' : AH} {m : Bool} {own : List Nat} {tg : ITg} {a : IE} {c : IT} {e : IE} {v : AV} {xs : List AV} (ha : evE T a ρ h = .ok v h') (hs : srcA h' v = some (.fix xs)) (hz : xs.length ≤ 16777216) :
    evE T (.lc m own tg (.val a) c e) ρ h = (lcG (.one (.fix xs)) (lcF T own tg c e ρ) xs.length 0 [] h').bind fun ys h => mkL m ys h := by
  rw [ev_lc, evi_val, ha, Out.bind_ok, hs]
  exact if_pos (Nat.le_trans hz sizeLine_big')
theorem ev_lcR {T : Tb} {ρ : En} {h h' : AH} {m : Bool} {own : List Nat} {tg : ITg} {a : IE} {c : IT} {e : IE} {j : Int} (ha : evE T a ρ h = .ok (.int j) h') (h0 : 0 ≤ j) (hz : j ≤ 16777216) :
    evE T (.lc m own tg (.rng1 a) c e) ρ h = (lcG (.one (.fix (rngA 0 j))) (lcF T own tg c e ρ) (rngA 0 j).length 0 [] h').bind fun ys h => mkL m ys h := by
  have hl : (rngA 0 j).length ≤ 16777216 := by unfold rngA; rw [List.length_map, List.length_range]; omega
  rw [ev_lc, evi_rng1, ha, Out.bind_ok]
  simp only
  rw [if_pos ⟨by omega, by omega⟩, Out.bind_ok]
  exact if_pos (Nat.le_trans hl sizeLine_big')
/-- a for over things that stand -/
theorem ex_forV {T : Tb} {ρ : En} {h h' : AH} {tg : ITg} {a : IE} {b : ISs} {v : AV} {xs : List AV} (ha : evE T a ρ h = .ok v h') (hs : srcA h' v = some (.fix xs)) : exS T (.forS tg (.val a) b) ρ h = forG (.one (.fix xs)) tg (fun ρ h => exSs T b ρ h) xs.length 0 ρ h' := by
  rw [ex_for, evi_val, ha, Out.bind_ok, hs]
  rfl
theorem ex_forR {T : Tb} {ρ : En} {h h' : AH} {tg : ITg} {a : IE} {b : ISs} {j : Int} (ha : evE T a ρ h = .ok (.int j) h') (h0 : -(2 ^ 62) ≤ j) (hz : j < 2 ^ 62) : exS T (.forS tg (.rng1 a) b) ρ h = forG (.one (.fix (rngA 0 j))) tg (fun ρ h => exSs T b ρ h) (rngA 0 j).length 0 ρ h' := by
  rw [ex_for, evi_rng1, ha, Out.bind_ok]
  simp only
  rw [if_pos ⟨h0, hz⟩]
  rfl
def dPick : IFn where
  ps := ["state", "some"]
  N := ["state", "some"]
  body := (.cons (.ret (.idx (.var 1) (.call "_law_take" (.cons (.var 0) (.cons (.bi .len (.cons (.var 1) .nil)) .nil))))) .nil)
def dBegun : IFn where
  ps := ["script"]
  N := ["script", "cell"]
  body := (.cons (.ret (.dct true (.cons (.cst (.str "great")) (.lc true [1] (.nm 1) (.val (.var 0)) (.val (.cmp .ge (.var 1) (.bin .pow (.cst (.int 10)) (.cst (.int 18))))) (.var 1)) (.cons (.cst (.str "rest")) (.cst (.int 0)) (.cons (.cst (.str "turn")) (.cst (.int 0)) (.cons (.cst (.str "seed")) (.cst (.int 7)) (.cons (.cst (.str "cells")) (.bin .add (.lc false [1] (.nm 1) (.val (.var 0)) .tt (.bin .mod (.var 1) (.cst (.int 2147483629)))) (.lst false (.cons (.cst (.int 77)) .nil))) .nil))))))) .nil)
/-- the laws' own small defs stand in the tables -/
structure Lib (G : Prg) : Prop where
  take : G.fns "_law_take" = some dTake
  takeA : ∀ a b, G.arr "_law_take" [a, b] [] [] = some [a, b]
  pick : G.fns "_law_pick" = some dPick
  begun : G.fns "_law_begun" = some dBegun
theorem sizeLine_big : 16777216 ≤ sizeLine := by decide
section
variable {G : Prg} (L : Lib G) {n : Nat} {h : AH} {r g b : Nat}
include L
/-- what is picked out of a thing that stands by itself -/
theorem pick_ok {s : AV} {m : Nat} {X : AV → Prop} (hl : ∀ h T, biS T h .len [s] = some (.int (m : Nat))) (h0 : 0 < m) (h1 : m < 1000000) (hi : ∀ h (v : Int), 0 ≤ v → v < m → ∃ x, idxS h s (.int v) = some x ∧ X x) (S : St h r g (b + 1)) :
    ∃ x h', callN G (n + 2) "_law_pick" [.ref r, s] h = .ok x h' ∧ X x ∧ St h' r g b ∧ Fr h h' r g := by
  obtain ⟨v, h', e, v0, v1, S', F⟩ := take_ok L.take (n := n) S (show (0 : Int) < m by omega) (by omega)
  obtain ⟨x, ex, hx⟩ := hi h' v v0 v1
  refine ⟨x, h', ?_, hx, S', F⟩
  unfold callN
  rw [L.pick]
  simp only [dPick, env0, List.length_cons, List.length_nil, if_true, List.map_cons, List.map_nil]
  simp [callS, Prg.tb, L.takeA, hl, e, ex, SOut.fin]
theorem pick_lst {xs : List AV} (h0 : xs ≠ []) (h1 : xs.length < 1000000) (S : St h r g (b + 1)) : ∃ x h', callN G (n + 2) "_law_pick" [.ref r, .lst xs] h = .ok x h' ∧ x ∈ xs ∧ St h' r g b ∧ Fr h h' r g :=
  pick_ok L (m := xs.length) (fun _ _ => rfl) (List.length_pos_iff.mpr h0) h1 (fun h v v0 v1 => by
    have e : idxS h (.lst xs) (.int v) = atI xs v := rfl
    obtain ⟨x, hx⟩ : ∃ x, xs[v.toNat]? = some x := ⟨_, List.getElem?_eq_getElem (by omega)⟩
    exact ⟨x, by rw [e, atI_in v0 v1, hx], List.mem_of_getElem? hx⟩) S
theorem pick_tup {xs : List AV} (h0 : xs ≠ []) (h1 : xs.length < 1000000) (S : St h r g (b + 1)) : ∃ x h', callN G (n + 2) "_law_pick" [.ref r, .tup xs] h = .ok x h' ∧ x ∈ xs ∧ St h' r g b ∧ Fr h h' r g :=
  pick_ok L (m := xs.length) (fun _ _ => rfl) (List.length_pos_iff.mpr h0) h1 (fun h v v0 v1 => by
    have e : idxS h (.tup xs) (.int v) = atI xs v := rfl
    obtain ⟨x, hx⟩ : ∃ x, xs[v.toNat]? = some x := ⟨_, List.getElem?_eq_getElem (by omega)⟩
    exact ⟨x, by rw [e, atI_in v0 v1, hx], List.mem_of_getElem? hx⟩) S
theorem pick_str {z : Str} (h0 : 0 < z.length) (h1 : z.length < 1000000) (S : St h r g (b + 1)) : ∃ x h', callN G (n + 2) "_law_pick" [.ref r, .str z] h = .ok x h' ∧ (∃ c, c ∈ z.cps.toList ∧ x = .str ⟨#[c]⟩) ∧ St h' r g b ∧ Fr h h' r g := by
  have hz : z.length ≤ sizeLine := Nat.le_trans (by omega) sizeLine_big
  refine pick_ok L (m := z.length) (X := fun x => ∃ c, c ∈ z.cps.toList ∧ x = .str ⟨#[c]⟩) (fun h T => ?_) h0 h1 (fun h v v0 v1 => ?_) S
  · show (if z.length ≤ sizeLine then some (AV.int (z.length : Nat)) else none) = _
    rw [if_pos hz]
  · have e : idxS h (.str z) (.int v) = (atI z.cps.toList v).map fun c => .str ⟨#[c]⟩ := if_pos hz
    have hl : z.cps.toList.length = z.length := by rw [Array.length_toList]; rfl
    obtain ⟨c, hc⟩ : ∃ c, z.cps.toList[v.toNat]? = some c := ⟨_, List.getElem?_eq_getElem (by omega)⟩
    exact ⟨_, by rw [e, atI_in v0 (by rw [hl]; exact v1), hc]; rfl, c, List.mem_of_getElem? hc, rfl⟩
theorem begun_ok {ns : List Int} (hl : ns.length ≤ 63) : ∃ h', callN G (n + 1) "_law_begun" [.lst (ns.map AV.int)] h = .ok (.ref (h.length + 1)) h' ∧ St h' (h.length + 1) h.length (2 ^ 62) ∧ ∃ o1 o2, h' = h ++ [o1, o2] := by
  have hz : (ns.map AV.int).length ≤ sizeLine := by rw [List.length_map]; exact Nat.le_trans (by omega) sizeLine_big
  have gr := lcG_pure (xs := ns.map AV.int) (h := h) (f := lcF (G.tb (callN G n)) [1] (.nm 1) (.val (.cmp .ge (.var 1) (.bin .pow (.cst (.int 10)) (.cst (.int 18))))) (.var 1) [some (.lst (ns.map AV.int)), none])
    (F := fun x => match x with | .int i => if 1000000000000000000 ≤ i then some (.int i) else none | _ => none) (fun x hx => by
      obtain ⟨i, _, rfl⟩ := List.mem_map.mp hx
      have q : binS .pow (.int 10) (.int 18) = some (.int 1000000000000000000) := bin_pow ⟨by decide, by decide, by decide⟩
      by_cases c : (1000000000000000000 : Int) ≤ i
      · simp [lcF, wipeA, q, c]
      · simp [lcF, wipeA, q, c]) (ns.map AV.int).length 0 [] (by omega)
  have cl := fun h2 => lcG_pure (xs := ns.map AV.int) (h := h2) (f := lcF (G.tb (callN G n)) [1] (.nm 1) .tt (.bin .mod (.var 1) (.cst (.int 2147483629))) [some (.lst (ns.map AV.int)), none])
    (F := fun x => match x with | .int i => some (.int (i % 2147483629)) | _ => none) (fun x hx => by
      obtain ⟨i, _, rfl⟩ := List.mem_map.mp hx
      have q : binS .mod (.int i) (.int 2147483629) = some (.int (i % 2147483629)) := bin_mod (by decide)
      simp [lcF, wipeA, q]) (ns.map AV.int).length 0 [] (by omega)
  have eg : ((ns.map AV.int).drop 0).filterMap (fun x => match x with | .int i => if 1000000000000000000 ≤ i then some (.int i) else none | _ => none) = (ns.filter (fun i => decide ((1000000000000000000 : Int) ≤ i))).map AV.int := by
    rw [List.drop_zero]
    clear gr cl hz hl
    induction ns with
    | nil => rfl
    | cons i l ih =>
      rw [List.map_cons, List.filterMap_cons, List.filter_cons]
      by_cases c : (1000000000000000000 : Int) ≤ i
      · simp only [if_pos c, ih, c, decide_true, if_true, List.map_cons]
      · simp only [if_neg c, ih, c, decide_false]
        rfl
  have ec : ((ns.map AV.int).drop 0).filterMap (fun x => match x with | .int i => some (.int (i % 2147483629)) | _ => none) = (ns.map (· % 2147483629)).map AV.int := by
    rw [List.drop_zero]
    clear gr cl hz hl eg
    induction ns with
    | nil => rfl
    | cons i l ih =>
      rw [List.map_cons, List.filterMap_cons, ih]
      rfl
  rw [eg, List.nil_append] at gr
  rw [ec] at cl
  have E1 : evE (G.tb (callN G n)) (.lc true [1] (.nm 1) (.val (.var 0)) (.val (.cmp .ge (.var 1) (.bin .pow (.cst (.int 10)) (.cst (.int 18))))) (.var 1)) [some (.lst (ns.map AV.int)), none] h = .ok (.ref h.length) (h ++ [.lst ((ns.filter (fun i => decide ((1000000000000000000 : Int) ≤ i))).map AV.int)]) := by
    rw [ev_lc, evi_val, ev_var]
    show ((if (ns.map AV.int).length ≤ sizeLine then _ else _) : Out AV) = _
    rw [if_pos hz]
    show (lcG (.one (.fix (ns.map AV.int))) _ (ns.map AV.int).length 0 [] h).bind _ = _
    rw [gr]
    rfl
  have E2 : ∀ h2, evE (G.tb (callN G n)) (.lc false [1] (.nm 1) (.val (.var 0)) .tt (.bin .mod (.var 1) (.cst (.int 2147483629)))) [some (.lst (ns.map AV.int)), none] h2 = .ok (.lst ((ns.map (· % 2147483629)).map AV.int)) h2 := fun h2 => by
    rw [ev_lc, evi_val, ev_var]
    show ((if (ns.map AV.int).length ≤ sizeLine then _ else _) : Out AV) = _
    rw [if_pos hz]
    show (lcG (.one (.fix (ns.map AV.int))) _ (ns.map AV.int).length 0 [] h2).bind _ = _
    rw [cl]
    rfl
  refine ⟨h ++ [.lst ((ns.filter (fun i => decide ((1000000000000000000 : Int) ≤ i))).map AV.int), .dct stK [.ref h.length, .int 0, .int 0, .int 7, .lst ((ns.map (· % 2147483629) ++ [77]).map AV.int)]], ?_, ⟨ns.filter (fun i => decide ((1000000000000000000 : Int) ≤ i)), ns.map (· % 2147483629) ++ [77], 0, 0, 7, ⟨?_, ?_, by omega⟩, fun x hx => ?_, by decide, by decide, by omega, by decide, by decide, by simp, by simp; omega, fun x hx => ?_⟩, _, _, rfl⟩
  · unfold callN
    rw [L.begun]
    simp only [dBegun, env0, List.length_cons, List.length_nil, if_true, List.map_cons, List.map_nil]
    have e0 : ([some (AV.lst (ns.map AV.int))] ++ List.replicate (0 + 1 + 1 - (0 + 1)) none : En) = [some (.lst (ns.map AV.int)), none] := rfl
    rw [e0]
    have a1 : addS (.lst ((ns.map (· % 2147483629)).map AV.int)) (.lst [.int 77]) = some (.lst ((ns.map (· % 2147483629) ++ [77]).map AV.int)) := by
      rw [add_ll (by simp only [List.length_map, List.length_cons, List.length_nil]; omega), List.map_append]
      rfl
    have dk : ∀ (vs : List AV) (hh : AH), vs.length = 5 → mkD true [.str "great", .str "rest", .str "turn", .str "seed", .str "cells"] vs hh = .ok (.ref hh.length) (hh ++ [.dct stK vs]) := by
      intro vs hh hv
      have : keysA [.str "great", .str "rest", .str "turn", .str "seed", .str "cells"] = some stK := rfl
      unfold mkD
      rw [this]
      show (if stK.Nodup ∧ stK.length = vs.length ∧ stK.length ≤ 15 then _ else _) = _
      rw [if_pos ⟨by decide, by rw [hv]; rfl, by decide⟩]
      rfl
    simp only [exs_cons, exs_nil, ex_ret, ev_dct, evp_cons, evp_nil, ev_cst, ev_bin, ev_lst, evs_cons, evs_nil, E1, E2, Out.bind_ok, mkL, bin_add]
    simp only [Bool.false_eq_true, if_false, Out.bind_ok, a1, pr_some]
    rw [dk _ _ rfl]
    simp only [Out.go_ok, SOut.seq_rt, SOut.fin, List.length_append, List.length_cons, List.length_nil, List.append_assoc]
    rfl
  · rw [List.getElem?_append_right (by omega)]
    simp
  · rw [List.getElem?_append_right (by omega)]
    simp
  · have := (List.mem_filter.mp hx).2
    simp only [decide_eq_true_eq] at this
    omega
  · rcases List.mem_append.mp hx with hx | hx
    · obtain ⟨y, _, rfl⟩ := List.mem_map.mp hx
      have h1 := Int.emod_nonneg y (show (2147483629 : Int) ≠ 0 by decide)
      have h2 := Int.emod_lt_of_pos y (show (0 : Int) < 2147483629 by decide)
      omega
    · have : x = 77 := by simpa using hx
      subst this
      decide
end
end Zk
namespace Zk.L
open PySem L2
abbrev top (i : Nat) : Stmt := PySem.Challenge.pw_frozenmakers_k02_names_known.main.body.getD i (.Pass ⟨0, 0, 0, 0⟩)
def d_is_name : IFn where
  ps := ["text"]
  N := ["text", "sign"]
  body := (.cons (.ifS (.lor (.lnot (.val (.bi .isinst (.cons (.var 0) (.cons (.con "str") .nil))))) (.lor (.lnot (.val (.chn .le .le (.cst (.int 1)) (.bi .len (.cons (.var 0) .nil)) (.con "LONGEST")))) (.val (.cmp .isin (.var 0) (.con "OWN"))))) (.cons (.ret (.cst (.bl false))) .nil) .nil) (.cons (.ret (.bi .all (.cons (.lc false [1] (.nm 1) (.val (.var 0)) .tt (.cmp .isin (.var 1) (.con "LETTERS"))) .nil))) .nil))
def d__law_begun : IFn where
  ps := ["script"]
  N := ["script", "cell"]
  body := (.cons (.ret (.dct true (.cons (.cst (.str "great")) (.lc true [1] (.nm 1) (.val (.var 0)) (.val (.cmp .ge (.var 1) (.bin .pow (.cst (.int 10)) (.cst (.int 18))))) (.var 1)) (.cons (.cst (.str "rest")) (.cst (.int 0)) (.cons (.cst (.str "turn")) (.cst (.int 0)) (.cons (.cst (.str "seed")) (.cst (.int 7)) (.cons (.cst (.str "cells")) (.bin .add (.lc false [1] (.nm 1) (.val (.var 0)) .tt (.bin .mod (.var 1) (.cst (.int 2147483629)))) (.lst false (.cons (.cst (.int 77)) .nil))) .nil))))))) .nil)
def d__law_take : IFn where
  ps := ["state", "many"]
  N := ["state", "many", "turn", "cell", "seed", "mixed", "found"]
  body := (.cons (.ifS (.land (.val (.cmp .eq (.idx (.var 0) (.cst (.str "rest"))) (.cst (.int 0)))) (.val (.cmp .ne (.idx (.var 0) (.cst (.str "great"))) (.lst false .nil)))) (.cons (.asg (.sub (.var 0) (.cst (.str "rest"))) (.bm .popAt (.idx (.var 0) (.cst (.str "great"))) (.cons (.cst (.int 0)) .nil))) .nil) .nil) (.cons (.ifS (.val (.cmp .gt (.idx (.var 0) (.cst (.str "rest"))) (.cst (.int 0)))) (.cons (.asg (.nm 6) (.bin .mod (.idx (.var 0) (.cst (.str "rest"))) (.var 1))) (.cons (.asg (.sub (.var 0) (.cst (.str "rest"))) (.bin .fdiv (.idx (.var 0) (.cst (.str "rest"))) (.var 1))) (.cons (.ret (.var 6)) .nil))) .nil) (.cons (.asg (.nm 2) (.idx (.var 0) (.cst (.str "turn")))) (.cons (.asg (.sub (.var 0) (.cst (.str "turn"))) (.bin .add (.var 2) (.cst (.int 1)))) (.cons (.asg (.nm 3) (.idx (.idx (.var 0) (.cst (.str "cells"))) (.bin .mod (.var 2) (.bi .len (.cons (.idx (.var 0) (.cst (.str "cells"))) .nil))))) (.cons (.asg (.nm 4) (.bin .mod (.bin .add (.bin .add (.bin .mul (.idx (.var 0) (.cst (.str "seed"))) (.cst (.int 48271))) (.bin .mul (.var 3) (.bin .add (.bin .mul (.cst (.int 2)) (.var 2)) (.cst (.int 3))))) (.bin .pow (.var 2) (.cst (.int 3)))) (.cst (.int 2147483647)))) (.cons (.asg (.sub (.var 0) (.cst (.str "seed"))) (.var 4)) (.cons (.asg (.nm 5) (.bin .add (.bin .mul (.bin .mod (.bin .pow (.var 4) (.cst (.int 2))) (.cst (.int 2147483629))) (.cst (.int 2147483587))) (.bin .mod (.bin .pow (.var 4) (.cst (.int 3))) (.cst (.int 2147483579))))) (.cons (.ret (.bin .mod (.bin .fdiv (.var 5) (.cst (.int 7))) (.var 1))) .nil)))))))))
def d__law_pick : IFn where
  ps := ["state", "some"]
  N := ["state", "some"]
  body := (.cons (.ret (.idx (.var 1) (.call "_law_take" (.cons (.var 0) (.cons (.bi .len (.cons (.var 1) .nil)) .nil))))) .nil)
def d__law_own : IFn where
  ps := []
  N := ["own"]
  body := (.cons (.asg (.nm 0) (.cst (.str "maker set say give if else while break again return throw try catch finally"))) (.cons (.ret (.bm .split (.bin .add (.var 0) (.cst (.str " make ask toss close all end none"))) (.cons (.cst (.str " ")) .nil))) .nil))
def d__law_thing : IFn where
  ps := ["state"]
  N := ["state", "own", "some", "sort", "bent", "word", "size", "at", "sign", "k"]
  body := (.cons (.asg (.nm 1) (.call "_law_own" .nil)) (.cons (.par 5 6 (.cons (.call "_law_pick" (.cons (.var 0) (.cons (.var 1) .nil))) (.cons (.idx (.lst false (.cons (.cst (.int 1)) (.cons (.cst (.int 8)) (.cons (.cst (.int 9)) (.cons (.call "_law_take" (.cons (.var 0) (.cons (.cst (.int 11)) .nil))) (.cons (.cst (.int 3)) .nil)))))) (.call "_law_take" (.cons (.var 0) (.cons (.cst (.int 5)) .nil)))) .nil))) (.cons (.asg (.nm 2) (.bm .join (.cst (.str "")) (.cons (.lc false [9] (.nm 9) (.rng1 (.var 6)) .tt (.call "_law_pick" (.cons (.var 0) (.cons (.cst (.str "abcdefghijklmnopqrstuvwxyz")) .nil)))) .nil))) (.cons (.asg (.nm 3) (.call "_law_take" (.cons (.var 0) (.cons (.cst (.int 6)) .nil)))) (.cons (.ifS (.val (.cmp .lt (.var 3) (.cst (.int 2)))) (.cons (.ret (.var 2)) .nil) .nil) (.cons (.ifS (.val (.cmp .lt (.var 3) (.cst (.int 4)))) (.cons (.ret (.call "_law_pick" (.cons (.var 0) (.cons (.lst false (.cons (.var 5) (.cons (.bin .add (.var 5) (.cst (.str "s"))) (.cons (.slc (.var 5) .nop (.neg (.cst (.int 1)))) (.cons (.bin .add (.var 5) (.cst (.str " "))) (.cons (.bm .upper (.var 5) .nil) (.cons (.slc (.var 5) (.cst (.int 1)) .nop) (.cons (.cst (.str "ask")) .nil)))))))) .nil)))) .nil) .nil) (.cons (.par 7 8 (.cons (.call "_law_take" (.cons (.var 0) (.cons (.bin .add (.bi .len (.cons (.var 2) .nil)) (.cst (.int 1))) .nil))) (.cons (.call "_law_pick" (.cons (.var 0) (.cons (.cst (.str "AZ09_ -.~a\n")) .nil))) .nil))) (.cons (.asg (.nm 4) (.bin .add (.bin .add (.slc (.var 2) .nop (.var 7)) (.var 8)) (.slc (.var 2) (.bin .add (.var 7) (.call "_law_take" (.cons (.var 0) (.cons (.cst (.int 2)) .nil)))) .nop))) (.cons (.ret (.call "_law_pick" (.cons (.var 0) (.cons (.lst false (.cons (.var 4) (.cons (.var 4) (.cons (.var 4) (.cons (.cst .non) (.cons (.cst (.int 5)) (.cons (.cst (.bl true)) (.cons (.tup (.cons (.var 5) .nil)) (.cons (.lst false (.cons (.var 2) .nil)) (.cons (.dct false (.cons (.var 2) (.var 2) .nil)) (.cons (.cst (.str "")) (.cons (.cst (.int 0)) (.cons (.tup (.cons (.cst (.str "box")) (.cons (.cst (.str "a")) .nil))) .nil))))))))))))) .nil)))) .nil)))))))))
def d_law : IFn where
  ps := ["script"]
  N := ["script", "state", "own", "turn", "matter", "copy", "due", "found", "word", "sign"]
  body := (.cons (.asg (.nm 1) (.call "_law_begun" (.cons (.var 0) .nil))) (.cons (.asg (.nm 2) (.call "_law_own" .nil)) (.cons (.forS (.nm 3) (.rng1 (.bin .add (.cst (.int 8)) (.bi .min2 (.cons (.bi .len (.cons (.var 0) .nil)) (.cons (.cst (.int 55)) .nil))))) (.cons (.asg (.nm 4) (.call "_law_thing" (.cons (.var 1) .nil))) (.cons (.asg (.nm 5) (.bi .repr (.cons (.var 4) .nil))) (.cons (.asg (.nm 6) (.land (.bi .isinst (.cons (.var 4) (.cons (.con "str") .nil))) (.land (.chn .le .le (.cst (.int 1)) (.bi .len (.cons (.var 4) .nil)) (.cst (.int 8))) (.cmp .notin (.var 4) (.var 2))))) (.cons (.asg (.nm 6) (.land (.var 6) (.cmp .eq (.lc false [9] (.nm 9) (.val (.var 4)) (.val (.cmp .notin (.var 9) (.cst (.str "abcdefghijklmnopqrstuvwxyz")))) (.var 9)) (.lst false .nil)))) (.cons (.forS (.nm 7) (.val (.lst false (.cons (.call "is_name" (.cons (.var 4) .nil)) (.cons (.calk "is_name" .nil ["text"] (.cons (.var 4) .nil)) .nil)))) (.cons (.ifS (.lor (.lnot (.val (.bi .isinst (.cons (.var 7) (.cons (.con "bool") .nil))))) (.lor (.val (.cmp .ne (.var 7) (.var 6))) (.val (.cmp .ne (.bi .repr (.cons (.var 4) .nil)) (.var 5))))) (.cons (.ret (.cst (.bl false))) .nil) .nil) .nil)) .nil)))))) (.cons (.ret (.cmp .eq (.lc false [8] (.nm 8) (.val (.var 2)) (.val (.call "is_name" (.cons (.var 8) .nil))) (.var 8)) (.lst false .nil))) .nil))))
def fTab : List (Str × IFn) := [("is_name", d_is_name), ("_law_begun", d__law_begun), ("_law_take", d__law_take), ("_law_pick", d__law_pick), ("_law_own", d__law_own), ("_law_thing", d__law_thing), ("law", d_law)]
def sTab : List (Str × List Shp) := [("is_name", [⟨1, [], [0]⟩, ⟨0, ["text"], [0]⟩]), ("_law_begun", [⟨1, [], [0]⟩]), ("_law_take", [⟨2, [], [0, 1]⟩]), ("_law_pick", [⟨2, [], [0, 1]⟩]), ("_law_own", [⟨0, [], []⟩]), ("_law_thing", [⟨1, [], [0]⟩]), ("law", [⟨1, [], [0]⟩])]
def cTab : List (Str × AV) := [("LETTERS", .str "abcdefghijklmnopqrstuvwxyz"), ("LONGEST", .int 8), ("OWN", .tup [.str "maker", .str "set", .str "say", .str "give", .str "if", .str "else", .str "while", .str "break", .str "again", .str "return", .str "throw", .str "try", .str "catch", .str "finally", .str "make", .str "ask", .str "toss", .str "close", .str "all", .str "end", .str "none"]), ("bool", .ty "bool"), ("str", .ty "str")]
def bls : List Str := ["all", "bool", "isinstance", "len", "min", "range", "repr", "str"]
def fss : List Str := ["is_name", "_law_begun", "_law_take", "_law_pick", "_law_own", "_law_thing", "law"]
def G (n : Nat) : Prg where
  fns := fun f => fTab.lookup f
  shp := fun f => (sTab.lookup f).getD []
  con := fun x => cTab.lookup x
  isi := fun _ _ => none
  fu := n
theorem ff0 {n : Nat} {K : Fg} {h : Heap} {mg : Str → Option Value} (X : K.In h) (Gm : h.Ns mainGlobals mg) {f : Addr} {od an : Option Addr} {sl : Array (Option Value)} {oc kV dc pm cd ct : Value} (a : PySem.W.nsIn K mainGlobals "is_name" = some (some (.ref f)))
    (l : K.lookup f = some ⟨oc, od, .func (PySem.W.fnOf "is_name" "is_name" (defArgs (top 4)) (defBody (top 4)) (defScope (top 4)) .none kV dc pm an cd ct), sl⟩) (c : PySem.W.codeIn K cd "is_name" = true) : FnFact K mg (G n) bls fss "is_name" d_is_name := by
  refine ⟨f, _, _, _, _, _, _, _, _, _, _, _, _, _, _, _, PySem.W.mg_of X Gm a, l, c, ⟨rfl, rfl, rfl, by decide +kernel, rfl, by decide +kernel, by decide +kernel⟩, rfl, by decide +kernel, fun sh hs => ?_⟩
  replace hs : sh ∈ ([⟨1, [], [0]⟩, ⟨0, ["text"], [0]⟩] : List Shp) := hs
  simp only [List.mem_cons, List.not_mem_nil, or_false] at hs
  rcases hs with rfl | rfl
  · exact ⟨rfl, fun s us ws _ hu hw => match us, ws, hu, hw with | [_], [], _, _ => .of_eq rfl⟩
  · exact ⟨rfl, fun s us ws _ hu hw => match us, ws, hu, hw with | [], [_], _, _ => .of_eq rfl⟩
theorem ff1 {n : Nat} {K : Fg} {h : Heap} {mg : Str → Option Value} (X : K.In h) (Gm : h.Ns mainGlobals mg) {f : Addr} {od an : Option Addr} {sl : Array (Option Value)} {oc kV dc pm cd ct : Value} (a : PySem.W.nsIn K mainGlobals "_law_begun" = some (some (.ref f)))
    (l : K.lookup f = some ⟨oc, od, .func (PySem.W.fnOf "_law_begun" "_law_begun" (defArgs (top 6)) (defBody (top 6)) (defScope (top 6)) .none kV dc pm an cd ct), sl⟩) (c : PySem.W.codeIn K cd "_law_begun" = true) : FnFact K mg (G n) bls fss "_law_begun" d__law_begun := by
  refine ⟨f, _, _, _, _, _, _, _, _, _, _, _, _, _, _, _, PySem.W.mg_of X Gm a, l, c, ⟨rfl, rfl, rfl, by decide +kernel, rfl, by decide +kernel, by decide +kernel⟩, rfl, by decide +kernel, fun sh hs => ?_⟩
  replace hs : sh ∈ ([⟨1, [], [0]⟩] : List Shp) := hs
  simp only [List.mem_cons, List.not_mem_nil, or_false] at hs
  subst hs
  · exact ⟨rfl, fun s us ws _ hu hw => match us, ws, hu, hw with | [_], [], _, _ => .of_eq rfl⟩
theorem ff2 {n : Nat} {K : Fg} {h : Heap} {mg : Str → Option Value} (X : K.In h) (Gm : h.Ns mainGlobals mg) {f : Addr} {od an : Option Addr} {sl : Array (Option Value)} {oc kV dc pm cd ct : Value} (a : PySem.W.nsIn K mainGlobals "_law_take" = some (some (.ref f)))
    (l : K.lookup f = some ⟨oc, od, .func (PySem.W.fnOf "_law_take" "_law_take" (defArgs (top 7)) (defBody (top 7)) (defScope (top 7)) .none kV dc pm an cd ct), sl⟩) (c : PySem.W.codeIn K cd "_law_take" = true) : FnFact K mg (G n) bls fss "_law_take" d__law_take := by
  refine ⟨f, _, _, _, _, _, _, _, _, _, _, _, _, _, _, _, PySem.W.mg_of X Gm a, l, c, ⟨rfl, rfl, rfl, by decide +kernel, rfl, by decide +kernel, by decide +kernel⟩, rfl, by decide +kernel, fun sh hs => ?_⟩
  replace hs : sh ∈ ([⟨2, [], [0, 1]⟩] : List Shp) := hs
  simp only [List.mem_cons, List.not_mem_nil, or_false] at hs
  subst hs
  · exact ⟨rfl, fun s us ws _ hu hw => match us, ws, hu, hw with | [_, _], [], _, _ => .of_eq rfl⟩
theorem ff3 {n : Nat} {K : Fg} {h : Heap} {mg : Str → Option Value} (X : K.In h) (Gm : h.Ns mainGlobals mg) {f : Addr} {od an : Option Addr} {sl : Array (Option Value)} {oc kV dc pm cd ct : Value} (a : PySem.W.nsIn K mainGlobals "_law_pick" = some (some (.ref f)))
    (l : K.lookup f = some ⟨oc, od, .func (PySem.W.fnOf "_law_pick" "_law_pick" (defArgs (top 8)) (defBody (top 8)) (defScope (top 8)) .none kV dc pm an cd ct), sl⟩) (c : PySem.W.codeIn K cd "_law_pick" = true) : FnFact K mg (G n) bls fss "_law_pick" d__law_pick := by
  refine ⟨f, _, _, _, _, _, _, _, _, _, _, _, _, _, _, _, PySem.W.mg_of X Gm a, l, c, ⟨rfl, rfl, rfl, by decide +kernel, rfl, by decide +kernel, by decide +kernel⟩, rfl, by decide +kernel, fun sh hs => ?_⟩
  replace hs : sh ∈ ([⟨2, [], [0, 1]⟩] : List Shp) := hs
  simp only [List.mem_cons, List.not_mem_nil, or_false] at hs
  subst hs
  · exact ⟨rfl, fun s us ws _ hu hw => match us, ws, hu, hw with | [_, _], [], _, _ => .of_eq rfl⟩
theorem ff4 {n : Nat} {K : Fg} {h : Heap} {mg : Str → Option Value} (X : K.In h) (Gm : h.Ns mainGlobals mg) {f : Addr} {od an : Option Addr} {sl : Array (Option Value)} {oc kV dc pm cd ct : Value} (a : PySem.W.nsIn K mainGlobals "_law_own" = some (some (.ref f)))
    (l : K.lookup f = some ⟨oc, od, .func (PySem.W.fnOf "_law_own" "_law_own" (defArgs (top 9)) (defBody (top 9)) (defScope (top 9)) .none kV dc pm an cd ct), sl⟩) (c : PySem.W.codeIn K cd "_law_own" = true) : FnFact K mg (G n) bls fss "_law_own" d__law_own := by
  refine ⟨f, _, _, _, _, _, _, _, _, _, _, _, _, _, _, _, PySem.W.mg_of X Gm a, l, c, ⟨rfl, rfl, rfl, by decide +kernel, rfl, by decide +kernel, by decide +kernel⟩, rfl, by decide +kernel, fun sh hs => ?_⟩
  replace hs : sh ∈ ([⟨0, [], []⟩] : List Shp) := hs
  simp only [List.mem_cons, List.not_mem_nil, or_false] at hs
  subst hs
  · exact ⟨rfl, fun s us ws _ hu hw => match us, ws, hu, hw with | [], [], _, _ => .of_eq rfl⟩
theorem ff5 {n : Nat} {K : Fg} {h : Heap} {mg : Str → Option Value} (X : K.In h) (Gm : h.Ns mainGlobals mg) {f : Addr} {od an : Option Addr} {sl : Array (Option Value)} {oc kV dc pm cd ct : Value} (a : PySem.W.nsIn K mainGlobals "_law_thing" = some (some (.ref f)))
    (l : K.lookup f = some ⟨oc, od, .func (PySem.W.fnOf "_law_thing" "_law_thing" (defArgs (top 10)) (defBody (top 10)) (defScope (top 10)) .none kV dc pm an cd ct), sl⟩) (c : PySem.W.codeIn K cd "_law_thing" = true) : FnFact K mg (G n) bls fss "_law_thing" d__law_thing := by
  refine ⟨f, _, _, _, _, _, _, _, _, _, _, _, _, _, _, _, PySem.W.mg_of X Gm a, l, c, ⟨rfl, rfl, rfl, by decide +kernel, rfl, by decide +kernel, by decide +kernel⟩, rfl, by decide +kernel, fun sh hs => ?_⟩
  replace hs : sh ∈ ([⟨1, [], [0]⟩] : List Shp) := hs
  simp only [List.mem_cons, List.not_mem_nil, or_false] at hs
  subst hs
  · exact ⟨rfl, fun s us ws _ hu hw => match us, ws, hu, hw with | [_], [], _, _ => .of_eq rfl⟩
theorem ff6 {n : Nat} {K : Fg} {h : Heap} {mg : Str → Option Value} (X : K.In h) (Gm : h.Ns mainGlobals mg) {f : Addr} {od an : Option Addr} {sl : Array (Option Value)} {oc kV dc pm cd ct : Value} (a : PySem.W.nsIn K mainGlobals "law" = some (some (.ref f)))
    (l : K.lookup f = some ⟨oc, od, .func (PySem.W.fnOf "law" "law" (defArgs (top 11)) (defBody (top 11)) (defScope (top 11)) .none kV dc pm an cd ct), sl⟩) (c : PySem.W.codeIn K cd "law" = true) : FnFact K mg (G n) bls fss "law" d_law := by
  refine ⟨f, _, _, _, _, _, _, _, _, _, _, _, _, _, _, _, PySem.W.mg_of X Gm a, l, c, ⟨rfl, rfl, rfl, by decide +kernel, rfl, by decide +kernel, by decide +kernel⟩, rfl, by decide +kernel, fun sh hs => ?_⟩
  replace hs : sh ∈ ([⟨1, [], [0]⟩] : List Shp) := hs
  simp only [List.mem_cons, List.not_mem_nil, or_false] at hs
  subst hs
  · exact ⟨rfl, fun s us ws _ hu hw => match us, ws, hu, hw with | [_], [], _, _ => .of_eq rfl⟩
theorem all_mk {K : Fg} {h : Heap} {mg : Str → Option Value} (X : K.In h) (Gm : h.Ns mainGlobals mg)
    {f0 f1 f2 f3 f4 f5 f6 : Addr} {od0 an0 od1 an1 od2 an2 od3 an3 od4 an4 od5 an5 od6 an6 : Option Addr} {sl0 sl1 sl2 sl3 sl4 sl5 sl6 : Array (Option Value)} {oc0 kV0 dc0 pm0 cd0 ct0 oc1 kV1 dc1 pm1 cd1 ct1 oc2 kV2 dc2 pm2 cd2 ct2 oc3 kV3 dc3 pm3 cd3 ct3 oc4 kV4 dc4 pm4 cd4 ct4 oc5 kV5 dc5 pm5 cd5 ct5 oc6 kV6 dc6 pm6 cd6 ct6 : Value}
    {v0 : Value} {v1 : Value} {p2 : Addr} {o2 : Obj}
    (a0 : PySem.W.nsIn K mainGlobals "is_name" = some (some (.ref f0)))
    (l0 : K.lookup f0 = some ⟨oc0, od0, .func (PySem.W.fnOf "is_name" "is_name" (defArgs (top 4)) (defBody (top 4)) (defScope (top 4)) .none kV0 dc0 pm0 an0 cd0 ct0), sl0⟩)
    (c0 : PySem.W.codeIn K cd0 "is_name" = true)
    (k0 : PySem.W.keepIn K (.ref f0) = true)
    (a1 : PySem.W.nsIn K mainGlobals "_law_begun" = some (some (.ref f1)))
    (l1 : K.lookup f1 = some ⟨oc1, od1, .func (PySem.W.fnOf "_law_begun" "_law_begun" (defArgs (top 6)) (defBody (top 6)) (defScope (top 6)) .none kV1 dc1 pm1 an1 cd1 ct1), sl1⟩)
    (c1 : PySem.W.codeIn K cd1 "_law_begun" = true)
    (k1 : PySem.W.keepIn K (.ref f1) = true)
    (a2 : PySem.W.nsIn K mainGlobals "_law_take" = some (some (.ref f2)))
    (l2 : K.lookup f2 = some ⟨oc2, od2, .func (PySem.W.fnOf "_law_take" "_law_take" (defArgs (top 7)) (defBody (top 7)) (defScope (top 7)) .none kV2 dc2 pm2 an2 cd2 ct2), sl2⟩)
    (c2 : PySem.W.codeIn K cd2 "_law_take" = true)
    (k2 : PySem.W.keepIn K (.ref f2) = true)
    (a3 : PySem.W.nsIn K mainGlobals "_law_pick" = some (some (.ref f3)))
    (l3 : K.lookup f3 = some ⟨oc3, od3, .func (PySem.W.fnOf "_law_pick" "_law_pick" (defArgs (top 8)) (defBody (top 8)) (defScope (top 8)) .none kV3 dc3 pm3 an3 cd3 ct3), sl3⟩)
    (c3 : PySem.W.codeIn K cd3 "_law_pick" = true)
    (k3 : PySem.W.keepIn K (.ref f3) = true)
    (a4 : PySem.W.nsIn K mainGlobals "_law_own" = some (some (.ref f4)))
    (l4 : K.lookup f4 = some ⟨oc4, od4, .func (PySem.W.fnOf "_law_own" "_law_own" (defArgs (top 9)) (defBody (top 9)) (defScope (top 9)) .none kV4 dc4 pm4 an4 cd4 ct4), sl4⟩)
    (c4 : PySem.W.codeIn K cd4 "_law_own" = true)
    (k4 : PySem.W.keepIn K (.ref f4) = true)
    (a5 : PySem.W.nsIn K mainGlobals "_law_thing" = some (some (.ref f5)))
    (l5 : K.lookup f5 = some ⟨oc5, od5, .func (PySem.W.fnOf "_law_thing" "_law_thing" (defArgs (top 10)) (defBody (top 10)) (defScope (top 10)) .none kV5 dc5 pm5 an5 cd5 ct5), sl5⟩)
    (c5 : PySem.W.codeIn K cd5 "_law_thing" = true)
    (k5 : PySem.W.keepIn K (.ref f5) = true)
    (a6 : PySem.W.nsIn K mainGlobals "law" = some (some (.ref f6)))
    (l6 : K.lookup f6 = some ⟨oc6, od6, .func (PySem.W.fnOf "law" "law" (defArgs (top 11)) (defBody (top 11)) (defScope (top 11)) .none kV6 dc6 pm6 an6 cd6 ct6), sl6⟩)
    (c6 : PySem.W.codeIn K cd6 "law" = true)
    (k6 : PySem.W.keepIn K (.ref f6) = true)
    (z0 : PySem.W.nsIn K mainGlobals "all" = some none)
    (z1 : PySem.W.nsIn K mainGlobals "bool" = some none)
    (z2 : PySem.W.nsIn K mainGlobals "isinstance" = some none)
    (z3 : PySem.W.nsIn K mainGlobals "len" = some none)
    (z4 : PySem.W.nsIn K mainGlobals "min" = some none)
    (z5 : PySem.W.nsIn K mainGlobals "range" = some none)
    (z6 : PySem.W.nsIn K mainGlobals "repr" = some none)
    (z7 : PySem.W.nsIn K mainGlobals "str" = some none)
    (mc0 : PySem.W.nsIn K mainGlobals "LETTERS" = some (some v0))
    (cw0 : vOf v0 = some (.str "abcdefghijklmnopqrstuvwxyz"))
    (mc1 : PySem.W.nsIn K mainGlobals "LONGEST" = some (some v1))
    (cw1 : vOf v1 = some (.int 8))
    (mc2 : PySem.W.nsIn K mainGlobals "OWN" = some (some (.ref p2)))
    (q2 : K.lookup p2 = some o2)
    (cw2 : tOf o2 = some (.tup [.str "maker", .str "set", .str "say", .str "give", .str "if", .str "else", .str "while", .str "break", .str "again", .str "return", .str "throw", .str "try", .str "catch", .str "finally", .str "make", .str "ask", .str "toss", .str "close", .str "all", .str "end", .str "none"]))
    : ∀ n : Nat, PrgOk K mg (G n) bls fss := fun n => by
  exact {
    con := fun x v e => con_of (l := cTab) (And.intro (con_v (PySem.W.mg_of X Gm mc0) cw0) <| And.intro (con_v (PySem.W.mg_of X Gm mc1) cw1) <| And.intro (con_t (PySem.W.mg_of X Gm mc2) q2 cw2) <| And.intro (con_b (PySem.W.mg_none_of X Gm z1) rfl rfl) <| And.intro (con_b (PySem.W.mg_none_of X Gm z7) rfl rfl) <| trivial) e,
    bl := fun x e => none_of (l := bls) (And.intro (PySem.W.mg_none_of X Gm z0) <| And.intro (PySem.W.mg_none_of X Gm z1) <| And.intro (PySem.W.mg_none_of X Gm z2) <| And.intro (PySem.W.mg_none_of X Gm z3) <| And.intro (PySem.W.mg_none_of X Gm z4) <| And.intro (PySem.W.mg_none_of X Gm z5) <| And.intro (PySem.W.mg_none_of X Gm z6) <| And.intro (PySem.W.mg_none_of X Gm z7) <| trivial) e,
    fs := fun f e => some_of (l := fss) (And.intro (⟨_, PySem.W.mg_of X Gm a0, k0⟩) <| And.intro (⟨_, PySem.W.mg_of X Gm a1, k1⟩) <| And.intro (⟨_, PySem.W.mg_of X Gm a2, k2⟩) <| And.intro (⟨_, PySem.W.mg_of X Gm a3, k3⟩) <| And.intro (⟨_, PySem.W.mg_of X Gm a4, k4⟩) <| And.intro (⟨_, PySem.W.mg_of X Gm a5, k5⟩) <| And.intro (⟨_, PySem.W.mg_of X Gm a6, k6⟩) <| trivial) e,
    iso := fun c => ⟨fun _ _ _ e => (by cases e), fun _ _ e => (by cases e), fun _ _ e => (by cases e)⟩,
    fn := fun f d e => facts_of (l := fTab) (And.intro (ff0 X Gm a0 l0 c0) <| And.intro (ff1 X Gm a1 l1 c1) <| And.intro (ff2 X Gm a2 l2 c2) <| And.intro (ff3 X Gm a3 l3 c3) <| And.intro (ff4 X Gm a4 l4 c4) <| And.intro (ff5 X Gm a5 l5 c5) <| And.intro (ff6 X Gm a6 l6 c6) <| trivial) e }

end Zk.L
namespace Zk.L
open PySem L2
theorem lib (m : Nat) : Lib (G m) := ⟨rfl, fun a b => rfl, rfl, rfl⟩
abbrev LET : Str := "abcdefghijklmnopqrstuvwxyz"
def ownW : List Str := ["maker", "set", "say", "give", "if", "else", "while", "break", "again", "return", "throw", "try", "catch", "finally", "make", "ask", "toss", "close", "all", "end", "none"]
def isL (c : Nat) : Bool := decide (c ∈ LET.cps.toList)
def allL (z : Str) : Bool := z.cps.toList.all isL
def okName (z : Str) : Bool := decide (1 ≤ z.length) && decide (z.length ≤ 8) && !(ownW.any (· == z)) && allL z
def isN : AV → Bool
  | .str z => okName z
  | _ => false
structure okZ (z : Str) : Prop where
  len : z.length ≤ 1000
  ch : ∀ c ∈ z.cps.toList, c < 1000
def okM (x : AV) : Prop := ((∃ z, x = .str z ∧ okZ z) ∨ (∀ T h, biS T h .isinst [x, .ty "str"] = some (.bl false))) ∧ ∃ s, ∀ h, reprS h x = some (.str s)
theorem own_ok {m n : Nat} {h : AH} : callN (G m) (n + 1) "_law_own" [] h = .ok (.lst (ownW.map AV.str)) h := by
  have e1 : Txt.split ((("maker set say give if else while break again return throw try catch finally" : Str)) ++ " make ask toss close all end none") " " = ownW := by decide +kernel
  have e2 : (G m).fns "_law_own" = some d__law_own := rfl
  have e3 : bmS h .split (.str ((("maker set say give if else while break again return throw try catch finally" : Str)) ++ " make ask toss close all end none")) [.str " "] = some (.lst (ownW.map AV.str), h) := by
    rw [← e1]
    unfold bmS
    simp only [strO, Option.bind_some]
    rw [if_pos ⟨by decide +kernel, by decide +kernel⟩]
  unfold callN
  rw [e2]
  simp only [d__law_own, env0, List.length_cons, List.length_nil, if_true, List.map_nil]
  have e4 : addS (.str "maker set say give if else while break again return throw try catch finally") (.str " make ask toss close all end none") = some (.str ((("maker set say give if else while break again return throw try catch finally" : Str)) ++ " make ask toss close all end none")) := add_ss (by decide +kernel)
  simp [e4, e3, tyM, bmT, pr2, SOut.fin]
theorem inst_str {T : Tb} {h : AH} {z : Str} : biS T h .isinst [.str z, .ty "str"] = some (.bl true) := by
  have : kitB "str" "str" = some true := by decide
  unfold biS isiS
  simp only [tyA, this, Option.map_some]
theorem in_own {h : AH} {z : Str} : inS h (.str z) (.tup (ownW.map AV.str)) = some (ownW.any (· == z)) := by
  rfl
theorem in_let {h : AH} {c : Nat} : inS h (.str ⟨#[c]⟩) (.str LET) = some (isL c) := by
  rfl
theorem is_name_ok {m n : Nat} {h : AH} {x : AV} (M : okM x) : callN (G m) (n + 1) "is_name" [x] h = .ok (.bl (isN x)) h := by
  have e2 : (G m).fns "is_name" = some d_is_name := rfl
  have c1 : (G m).con "str" = some (.ty "str") := rfl
  have c2 : (G m).con "LONGEST" = some (.int 8) := rfl
  have c3 : (G m).con "OWN" = some (.tup (ownW.map AV.str)) := rfl
  have c4 : (G m).con "LETTERS" = some (.str LET) := rfl
  unfold callN
  rw [e2]
  simp only [d_is_name, env0, List.length_cons, List.length_nil, if_true, List.map_cons, List.map_nil]
  rcases M.1 with ⟨z, rfl, Z⟩ | hn
  · have hz : z.length ≤ sizeLine := Nat.le_trans (Nat.le_trans Z.len (by omega)) sizeLine_big
    have hl : ∀ T h, biS T h .len [.str z] = some (.int (z.length : Nat)) := fun T h => if_pos hz
    have hcl : (z.cps.toList.map fun c => AV.str ⟨#[c]⟩).length ≤ sizeLine := by rw [List.length_map, Array.length_toList]; exact hz
    have lc : ∀ h, evE ((G m).tb (callN (G m) n)) (.lc false [1] (.nm 1) (.val (.var 0)) .tt (.cmp .isin (.var 1) (.con "LETTERS"))) [some (.str z), none] h = .ok (.lst (z.cps.toList.map fun c => .bl (isL c))) h := fun h => by
      rw [ev_lc, evi_val, ev_var]
      show ((if (z.cps.toList.map fun c => AV.str ⟨#[c]⟩).length ≤ sizeLine then _ else _) : Out AV) = _
      rw [if_pos hcl]
      show (lcG (.one (.fix (z.cps.toList.map fun c => AV.str ⟨#[c]⟩))) _ (z.cps.toList.map fun c => AV.str ⟨#[c]⟩).length 0 [] h).bind _ = _
      rw [lcG_pure (F := fun x => match x with | .str s => some (.bl (isL (s.cps.getD 0 0))) | _ => none) (fun x hx => ?_) _ 0 [] (by omega)]
      · simp [mkL, List.filterMap_map, Function.comp_def]
      · obtain ⟨c, _, rfl⟩ := List.mem_map.mp hx
        simp [lcF, wipeA, c4, in_let]
    have al : ∀ T h, biS T h .all [.lst (z.cps.toList.map fun c => .bl (isL c))] = some (.bl (allL z)) := fun T h => by
      have : ∀ l : List Nat, blsA (l.map fun c => AV.bl (isL c)) = some (l.map fun c => decide (c ∈ LET.cps.toList)) := fun l => by
        induction l with
        | nil => rfl
        | cons a l ih => rw [List.map_cons, List.map_cons, blsA, ih]; rfl
      unfold biS
      simp only [lstL, deref, Option.bind_some, this, Option.map_some]
      rw [List.all_map]
      rfl
    have e0 : ([some (AV.str z)] ++ List.replicate (0 + 1 + 1 - (0 + 1)) none : En) = [some (.str z), none] := rfl
    rw [e0]
    by_cases h1 : 1 ≤ z.length
    · have i1 : (1 : Int) ≤ (z.length : Nat) := by omega
      by_cases h8 : z.length ≤ 8
      · have i8 : ((z.length : Nat) : Int) ≤ 8 := by omega
        cases ho : ownW.any (· == z) with
        | true =>
          have : isN (.str z) = false := by show okName z = false; unfold okName; rw [ho]; simp
          rw [this]
          simp [c1, c2, c3, inst_str, hl, in_own, ho, i1, i8, SOut.fin]
        | false =>
          have : isN (.str z) = allL z := by show okName z = _; unfold okName; rw [ho, decide_eq_true h1, decide_eq_true h8]; rfl
          rw [this]
          simp [c1, c2, c3, inst_str, hl, in_own, ho, i1, i8, lc, al, SOut.fin]
      · have i8 : ¬ ((z.length : Nat) : Int) ≤ 8 := by omega
        have : isN (.str z) = false := by show okName z = false; unfold okName; rw [decide_eq_false h8]; simp
        rw [this]
        simp [c1, c2, c3, inst_str, hl, in_own, i1, i8, SOut.fin]
    · have i1 : ¬ (1 : Int) ≤ (z.length : Nat) := by omega
      have : isN (.str z) = false := by show okName z = false; unfold okName; rw [decide_eq_false h1]; simp
      rw [this]
      simp [c1, c2, c3, inst_str, hl, in_own, i1, SOut.fin]
  · have : isN x = false := by
      cases x with
      | str z =>
        have := (inst_str (T := (G m).tb (callN (G m) n)) (h := h) (z := z)).symm.trans (hn ((G m).tb (callN (G m) n)) h)
        cases this
      | _ => rfl
    rw [this]
    simp [c1, hn, SOut.fin]
theorem okM_of {x : AV} {d : PyData} (h1 : ∀ h, datR h x = some d) (h2 : d.showable = true) (h3 : d.leavesShort 8 = true) (h4 : d.bulk ≤ 2 ^ 20) (h5 : d.depth ≤ 100) : ∃ s, ∀ h, reprS h x = some (.str s) := by
  refine ⟨d.shown, fun h => ?_⟩
  unfold reprS
  rw [h1 h, Option.bind_some, if_pos ⟨h2, PyData.shown_fits_bulk (by decide) (by decide) h3 h4, h5⟩]
theorem okZ.short {z : Str} (Z : okZ z) : (z.cps.toList.all fun c => decide (c < 16 ^ 8)) = true := by
  rw [List.all_eq_true]
  intro c hc
  have := Z.ch c hc
  have e : (16 : Nat) ^ 8 = 4294967296 := by decide
  rw [decide_eq_true_eq, e]
  omega
theorem okZ.size {z : Str} (Z : okZ z) : z.cps.size ≤ 1000 := Z.len
theorem okZ.m {z : Str} (Z : okZ z) : okM (.str z) := by
  refine ⟨.inl ⟨z, rfl, Z⟩, okM_of (d := .str z) (fun h => rfl) rfl ?_ ?_ (by show 0 ≤ 100; decide)⟩
  · rw [PyData.leavesShort]; exact Z.short
  · rw [PyData.bulk]; have := Z.size; omega
theorem okM_non : okM .non := ⟨.inr fun T h => by rfl, okM_of (d := .none) (fun h => rfl) rfl rfl (by decide) (by decide)⟩
theorem okM_5 : okM (.int 5) := ⟨.inr fun T h => by rfl, okM_of (d := .int 5) (fun h => rfl) rfl (by decide) (by decide) (by decide)⟩
theorem okM_0 : okM (.int 0) := ⟨.inr fun T h => by rfl, okM_of (d := .int 0) (fun h => rfl) rfl (by decide) (by decide) (by decide)⟩
theorem okM_tr : okM (.bl true) := ⟨.inr fun T h => by rfl, okM_of (d := .bool true) (fun h => rfl) rfl (by decide) (by decide) (by decide)⟩
theorem okM_tup {z : Str} (Z : okZ z) : okM (.tup [.str z]) := by
  refine ⟨.inr fun T h => by rfl, okM_of (d := .tuple [.str z]) (fun h => rfl) rfl ?_ ?_ (by show 1 ≤ 100; decide)⟩
  · simp only [PyData.leavesShort, PyData.leavesShortAll, Bool.and_true]; exact Z.short
  · simp only [PyData.bulk, PyData.bulkAll]; have := Z.size; omega
theorem okM_lst {z : Str} (Z : okZ z) : okM (.lst [.str z]) := by
  refine ⟨.inr fun T h => by rfl, okM_of (d := .list [.str z]) (fun h => rfl) rfl ?_ ?_ (by show 1 ≤ 100; decide)⟩
  · simp only [PyData.leavesShort, PyData.leavesShortAll, Bool.and_true]; exact Z.short
  · simp only [PyData.bulk, PyData.bulkAll]; have := Z.size; omega
theorem okM_dct {z : Str} (Z : okZ z) : okM (.dct [.inr z] [.str z]) := by
  refine ⟨.inr fun T h => by rfl, okM_of (d := .dict [(.str z, .str z)]) (fun h => rfl) rfl ?_ ?_ (by show 1 ≤ 100; decide)⟩
  · simp only [PyData.leavesShort, PyData.leavesShortKv, Bool.and_true, Bool.and_eq_true]; exact ⟨Z.short, Z.short⟩
  · simp only [PyData.bulk, PyData.bulkKv]; have := Z.size; omega
theorem okM_box : okM (.tup [.str "box", .str "a"]) := ⟨.inr fun T h => by rfl, okM_of (d := .tuple [.str "box", .str "a"]) (fun h => rfl) rfl (by decide +kernel) (by decide +kernel) (by decide +kernel)⟩
/-! texts -/
theorem okZ_own {z : Str} (h : z ∈ ownW) : okZ z ∧ z.length ≤ 20 := by
  have : ownW.all (fun z => decide (z.length ≤ 20) && z.cps.toList.all fun c => decide (c < 1000)) = true := by decide +kernel
  have := List.all_eq_true.mp this z h
  simp only [Bool.and_eq_true, decide_eq_true_eq, List.all_eq_true] at this
  exact ⟨⟨by omega, this.2⟩, this.1⟩
theorem okZ_upper {z : Str} (h : z ∈ ownW) : okZ (Txt.upper z) ∧ z.length ≤ 5592405 := by
  have : ownW.all (fun z => decide ((Txt.upper z).length ≤ 1000) && (Txt.upper z).cps.toList.all fun c => decide (c < 1000)) = true := by decide +kernel
  have := List.all_eq_true.mp this z h
  simp only [Bool.and_eq_true, decide_eq_true_eq, List.all_eq_true] at this
  exact ⟨⟨this.1, this.2⟩, by have := (okZ_own h).2; omega⟩
theorem cps_append (x y : Str) : (x ++ y).cps.toList = x.cps.toList ++ y.cps.toList := by
  show (x.cps ++ y.cps).toList = _
  rw [Array.toList_append]
theorem len_list (x : Str) : x.length = x.cps.toList.length := by rw [Array.length_toList]; rfl
theorem okZ_app {x y : Str} (hx : ∀ c ∈ x.cps.toList, c < 1000) (hy : ∀ c ∈ y.cps.toList, c < 1000) (hl : x.length + y.length ≤ 1000) : okZ (x ++ y) := by
  refine ⟨?_, fun c hc => ?_⟩
  · rw [len_list, cps_append, List.length_append, ← len_list, ← len_list]; exact hl
  · rw [cps_append] at hc
    exact (List.mem_append.mp hc).elim (hx c) (hy c)
theorem cut_le {α : Type} (xs : List α) (lo hi : Option Int) : (cutA xs lo hi).length ≤ xs.length ∧ ∀ c ∈ cutA xs lo hi, c ∈ xs := by
  unfold cutA
  refine ⟨?_, fun c hc => List.mem_of_mem_drop (List.mem_of_mem_take hc)⟩
  rw [List.length_take, List.length_drop]
  omega
theorem okZ_cut {z : Str} (Z : okZ z) (lo hi : Option Int) : okZ ⟨(cutA z.cps.toList lo hi).toArray⟩ ∧ (⟨(cutA z.cps.toList lo hi).toArray⟩ : Str).length ≤ z.length := by
  obtain ⟨h1, h2⟩ := cut_le z.cps.toList lo hi
  have e : (⟨(cutA z.cps.toList lo hi).toArray⟩ : Str).length ≤ z.length := by
    rw [len_list, len_list]; exact h1
  exact ⟨⟨Nat.le_trans e Z.len, fun c hc => Z.ch c (h2 c hc)⟩, e⟩
theorem slc_str {h : AH} {z : Str} (Z : okZ z) (lo hi : Option Int) : slcS h (.str z) lo hi = some (.str ⟨(cutA z.cps.toList lo hi).toArray⟩) := if_pos (Nat.le_trans (Nat.le_trans Z.len (by omega)) sizeLine_big)
end Zk.L
namespace Zk.L
open PySem L2
theorem joinL_ok : ∀ {ps : List (List Nat)}, (∀ p ∈ ps, p.length ≤ 1 ∧ ∀ c ∈ p, c < 1000) → (TL.joinL [] ps).length ≤ ps.length ∧ ∀ c ∈ TL.joinL [] ps, c < 1000
  | [], _ => ⟨Nat.le_refl _, fun c hc => by cases hc⟩
  | [p], h => by
    obtain ⟨h1, h2⟩ := h p (by simp)
    exact ⟨h1, h2⟩
  | p :: q :: r, h => by
    obtain ⟨h1, h2⟩ := h p (by simp)
    obtain ⟨h3, h4⟩ := joinL_ok (ps := q :: r) fun x hx => h x (List.mem_cons_of_mem _ hx)
    refine ⟨?_, fun c hc => ?_⟩
    · show (p ++ ([] ++ TL.joinL [] (q :: r))).length ≤ _
      rw [List.nil_append, List.length_append, List.length_cons]
      omega
    · have hc : c ∈ p ++ ([] ++ TL.joinL [] (q :: r)) := hc
      rw [List.nil_append] at hc
      exact (List.mem_append.mp hc).elim (h2 c) (h4 c)
theorem join_ok {ys : List Str} (h : ∀ y ∈ ys, ∃ c, y = ⟨#[c]⟩ ∧ c < 1000) : (Txt.join "" ys).length ≤ ys.length ∧ ∀ c ∈ (Txt.join "" ys).cps.toList, c < 1000 := by
  have e : (Txt.join "" ys).cps.toList = TL.joinL [] (ys.map TL.tl) := by
    rw [TL.join_eq]
    exact TL.tl_join "" ys
  have k := joinL_ok (ps := ys.map TL.tl) (fun p hp => by
    obtain ⟨y, hy, rfl⟩ := List.mem_map.mp hp
    obtain ⟨c, rfl, hc⟩ := h y hy
    refine ⟨Nat.le_refl _, fun d hd => ?_⟩
    have : d = c := by simpa [TL.tl] using hd
    omega)
  rw [← e, List.length_map] at k
  exact ⟨by rw [len_list]; exact k.1, k.2⟩
/-- signs drawn one by one -/
def Sgn (x : AV) : Prop := ∃ c, c < 1000 ∧ x = .str ⟨#[c]⟩
theorem strs_sgn : ∀ {acc : List AV}, (∀ x ∈ acc, Sgn x) → ∃ ys, strsA acc = some ys ∧ ys.length = acc.length ∧ ∀ y ∈ ys, ∃ c, y = ⟨#[c]⟩ ∧ c < 1000
  | [], _ => ⟨[], rfl, rfl, fun y hy => by cases hy⟩
  | x :: acc, h => by
    obtain ⟨c, hc, rfl⟩ := h x (by simp)
    obtain ⟨ys, h1, h2, h3⟩ := strs_sgn (acc := acc) fun y hy => h y (List.mem_cons_of_mem _ hy)
    refine ⟨⟨#[c]⟩ :: ys, by rw [strsA, h1]; rfl, by simp [h2], fun y hy => ?_⟩
    rcases List.mem_cons.mp hy with rfl | hy
    · exact ⟨c, rfl, hc⟩
    · exact h3 y hy
theorem sums {ys : List Str} (h : ∀ y ∈ ys, ∃ c, y = ⟨#[c]⟩ ∧ c < 1000) : (ys.map (·.length)).sum = ys.length := by
  induction ys with
  | nil => rfl
  | cons y ys ih =>
    obtain ⟨c, rfl, hc⟩ := h y (by simp)
    rw [List.map_cons, List.sum_cons, ih fun z hz => h z (List.mem_cons_of_mem _ hz), List.length_cons]
    show 1 + _ = _
    omega
theorem let_lt {c : Nat} (h : c ∈ LET.cps.toList) : c < 1000 := by
  have : LET.cps.toList.all (fun c => decide (c < 1000)) = true := by decide +kernel
  simpa using List.all_eq_true.mp this c h
abbrev ODD : Str := "AZ09_ -.~a\n"
theorem odd_lt {c : Nat} (h : c ∈ ODD.cps.toList) : c < 1000 := by
  have : ODD.cps.toList.all (fun c => decide (c < 1000)) = true := by decide +kernel
  simpa using List.all_eq_true.mp this c h
section
variable {m n : Nat} {h : AH} {r g b : Nat}
theorem take1 (n : Nat) {many : Int} (S : St h r g (b + 1)) (h0 : 0 < many) (h1 : many < 1073741824) : ∃ v h', callN (G m) (n + 1) "_law_take" [.ref r, .int many] h = .ok (.int v) h' ∧ 0 ≤ v ∧ v < many ∧ St h' r g b ∧ Fr h h' r g := take_ok (lib m).take S h0 h1
theorem word_ok (n : Nat) (S : St h r g (b + 1)) : ∃ w h', callN (G m) (n + 2) "_law_pick" [.ref r, .lst (ownW.map AV.str)] h = .ok (.str w) h' ∧ w ∈ ownW ∧ St h' r g b ∧ Fr h h' r g := by
  obtain ⟨x, h', e, hx, S', F⟩ := pick_lst (lib m) (n := n) (xs := ownW.map AV.str) (by decide) (by decide) S
  obtain ⟨w, hw, rfl⟩ := List.mem_map.mp hx
  exact ⟨w, h', e, hw, S', F⟩
theorem some_ok (n : Nat) {ρ : En} {size : Int} (e0 : ρ[0]? = some (some (.ref r))) (e6 : ρ[6]? = some (some (.int size))) (h0 : 0 ≤ size) (h1 : size ≤ 10) (hl : 9 < ρ.length) (S : St h r g (b + 10)) :
    ∃ z h', evE ((G m).tb (callN (G m) (n + 2))) (.bm .join (.cst (.str "")) (.cons (.lc false [9] (.nm 9) (.rng1 (.var 6)) .tt (.call "_law_pick" (.cons (.var 0) (.cons (.cst (.str "abcdefghijklmnopqrstuvwxyz")) .nil)))) .nil)) ρ h = .ok (.str z) h' ∧ z.length ≤ 10 ∧ (∀ c ∈ z.cps.toList, c < 1000) ∧ St h' r g b ∧ Fr h h' r g := by
  have hx : (rngA 0 size).length = size.toNat := by unfold rngA; rw [List.length_map, List.length_range, Int.sub_zero]
  obtain ⟨acc, h', e, p1, p2, p3, p4⟩ := lcG_inv (xs := rngA 0 size) (f := lcF ((G m).tb (callN (G m) (n + 2))) [9] (.nm 9) .tt (.call "_law_pick" (.cons (.var 0) (.cons (.cst (.str "abcdefghijklmnopqrstuvwxyz")) .nil))) ρ)
    (P := fun i acc h1 => St h1 r g (b + (10 - i)) ∧ Fr h h1 r g ∧ acc.length = i ∧ ∀ x ∈ acc, Sgn x) (fun i x acc h1 hi p => by
      obtain ⟨p1, p2, p3, p4⟩ := p
      have hi' := lt_of hi
      have eb : b + (10 - i) = (b + (10 - (i + 1))) + 1 := by omega
      rw [eb] at p1
      obtain ⟨y, h2, e, ⟨c, hc, rfl⟩, S2, F2⟩ := pick_str (lib m) (n := n) (z := LET) (by decide +kernel) (by decide +kernel) p1
      refine .inl ⟨.str ⟨#[c]⟩, h2, ?_, S2, p2.trans F2, by simp [p3], fun y hy => ?_⟩
      · have hw : (wipeA ρ [9]).length = ρ.length := by simp [wipeA]
        have k0 : ((ρ.set 9 none).set 9 (some x))[0]? = some (some (.ref r)) := by
          rw [List.getElem?_set_ne (by decide), List.getElem?_set_ne (by decide)]; exact e0
        have ea : (G m).arr "_law_pick" [.ref r, .str LET] [] [] = some [.ref r, .str LET] := rfl
        simp [lcF, wipeA, hl, e0, call_s ea, e]
      · rcases List.mem_append.mp hy with hy | hy
        · exact p4 y hy
        · have : y = .str ⟨#[c]⟩ := by simpa using hy
          exact ⟨c, let_lt hc, this⟩) (rngA 0 size).length 0 [] h (by omega) ⟨by simpa using S, .refl, rfl, fun x hx => by cases hx⟩
  obtain ⟨ys, q1, q2, q3⟩ := strs_sgn p4
  obtain ⟨j1, j2⟩ := join_ok q3
  refine ⟨Txt.join "" ys, h', ?_, by omega, j2, p1.mono (by omega), p2⟩
  have lc : evE ((G m).tb (callN (G m) (n + 2))) (.lc false [9] (.nm 9) (.rng1 (.var 6)) .tt (.call "_law_pick" (.cons (.var 0) (.cons (.cst (.str "abcdefghijklmnopqrstuvwxyz")) .nil)))) ρ h = .ok (.lst acc) h' := by
    rw [ev_lc, evi_rng1, ev_var, e6]
    show ((if _ then (Out.ok (AIt.one (.fix (rngA 0 size))) h : Out AIt) else _).bind _ : Out AV) = _
    rw [if_pos ⟨by omega, by omega⟩, Out.bind_ok]
    show ((if (rngA 0 size).length ≤ sizeLine then _ else _) : Out AV) = _
    rw [if_pos (Nat.le_trans (by omega) sizeLine_big)]
    show (lcG (.one (.fix (rngA 0 size))) _ (rngA 0 size).length 0 [] h).bind _ = _
    rw [e]
    rfl
  have bm : bmS h' .join (.str "") [.lst acc] = some (.str (Txt.join "" ys), h') := by
    unfold bmS
    simp only [strO, itemsL, deref, q1, Option.bind_some]
    rw [if_pos]
    rw [sums q3]
    have : ("" : Str).length = 0 := by decide
    rw [this]
    omega
  have ht : tyM h .join (.str "") = true := rfl
  rw [ev_bm, ev_cst, Out.bind_ok, if_pos ht, evs_cons, lc, Out.bind_ok, evs_nil, Out.bind_ok, Out.bind_ok, bm]
  rfl


theorem size_ok (n : Nat) {ρ : En} (e0 : ρ[0]? = some (some (.ref r))) (S : St h r g (b + 2)) :
    ∃ s h', evE ((G m).tb (callN (G m) (n + 1))) (.idx (.lst false (.cons (.cst (.int 1)) (.cons (.cst (.int 8)) (.cons (.cst (.int 9)) (.cons (.call "_law_take" (.cons (.var 0) (.cons (.cst (.int 11)) .nil))) (.cons (.cst (.int 3)) .nil)))))) (.call "_law_take" (.cons (.var 0) (.cons (.cst (.int 5)) .nil)))) ρ h = .ok (.int s) h' ∧ 0 ≤ s ∧ s ≤ 10 ∧ St h' r g b ∧ Fr h h' r g := by
  obtain ⟨v, h1, e1, v0, v1, S1, F1⟩ := take1 (m := m) n S (show (0 : Int) < 11 by decide) (by decide)
  obtain ⟨w, h2, e2, w0, w1, S2, F2⟩ := take1 (m := m) n S1 (show (0 : Int) < 5 by decide) (by decide)
  have a1 : (G m).arr "_law_take" [.ref r, .int 11] [] [] = some [.ref r, .int 11] := rfl
  have a2 : (G m).arr "_law_take" [.ref r, .int 5] [] [] = some [.ref r, .int 5] := rfl
  have hc : w = 0 ∨ w = 1 ∨ w = 2 ∨ w = 3 ∨ w = 4 := by omega
  have ix : ∃ s, idxS h2 (.lst [.int 1, .int 8, .int 9, .int v, .int 3]) (.int w) = some (.int s) ∧ 0 ≤ s ∧ s ≤ 10 := by
    rcases hc with rfl | rfl | rfl | rfl | rfl
    · exact ⟨1, rfl, by decide, by decide⟩
    · exact ⟨8, rfl, by decide, by decide⟩
    · exact ⟨9, rfl, by decide, by decide⟩
    · exact ⟨v, rfl, v0, by omega⟩
    · exact ⟨3, rfl, by decide, by decide⟩
  obtain ⟨s, es, s0, s1⟩ := ix
  refine ⟨s, h2, ?_, s0, s1, S2, F1.trans F2⟩
  simp [e0, call_s a1, e1, mkL, call_s a2, e2, es]
theorem thing_ok (n : Nat) (S : St h r g (b + 40)) : ∃ x h', callN (G m) (n + 4) "_law_thing" [.ref r] h = .ok x h' ∧ okM x ∧ St h' r g b ∧ Fr h h' r g := by
  have e2 : (G m).fns "_law_thing" = some d__law_thing := rfl
  obtain ⟨w, h1, x1, hw, S1, F1⟩ := word_ok (m := m) (n + 1) (b := b + 39) S
  obtain ⟨sz, h2, x2, s0, s1, S2, F2⟩ := size_ok (m := m) (n + 2) (b := b + 37) (ρ := [some (.ref r), some (.lst (ownW.map AV.str)), none, none, none, none, none, none, none, none]) rfl S1
  obtain ⟨z, h3, x3, z1, z2, S3, F3⟩ := some_ok (m := m) (n + 1) (b := b + 27) (ρ := [some (.ref r), some (.lst (ownW.map AV.str)), none, none, none, some (.str w), some (.int sz), none, none, none]) rfl rfl s0 s1 (by simp) S2
  obtain ⟨so, h4, x4, o0, o1, S4, F4⟩ := take1 (m := m) (n + 2) (b := b + 26) S3 (show (0 : Int) < 6 by decide) (by decide)
  have F := ((F1.trans F2).trans F3).trans F4
  have Z : okZ z := ⟨by omega, z2⟩
  obtain ⟨W, wl⟩ := okZ_own hw
  have a1 : (G m).arr "_law_own" [] [] [] = some [] := rfl
  have a2 : ∀ x y, (G m).arr "_law_pick" [x, y] [] [] = some [x, y] := fun _ _ => rfl
  have a3 : ∀ x y, (G m).arr "_law_take" [x, y] [] [] = some [x, y] := fun _ _ => rfl
  have hl : ∀ T h, biS T h .len [.str z] = some (.int (z.length : Nat)) := fun T h => if_pos (Nat.le_trans (by omega) sizeLine_big)
  have go : ∀ {x : AV} {h' : AH}, okM x → St h' r g b → Fr h4 h' r g → callN (G m) (n + 4) "_law_thing" [.ref r] h = .ok x h' → ∃ x h', callN (G m) (n + 4) "_law_thing" [.ref r] h = .ok x h' ∧ okM x ∧ St h' r g b ∧ Fr h h' r g := fun hx hs hf e => ⟨_, _, e, hx, hs, F.trans hf⟩
  have E0 : ([some (AV.ref r)] ++ List.replicate (0 + 1 + 1 + 1 + 1 + 1 + 1 + 1 + 1 + 1 + 1 - (0 + 1)) none : En) = [some (.ref r), none, none, none, none, none, none, none, none, none] := rfl
  by_cases c1 : so < 2
  · refine go Z.m (S4.mono (by omega)) .refl ?_
    unfold callN
    rw [e2]
    simp only [d__law_thing, env0, List.length_cons, List.length_nil, if_true, List.map_cons, List.map_nil]
    rw [E0]
    simp [-ev_idx, -ev_bm, call_s a1, own_ok, call_s (a2 _ _), x1, x2, x3, call_s (a3 _ _), x4, c1, SOut.fin]
  · have ls : ("s" : Str).length = 1 := by decide
    have lb : (" " : Str).length = 1 := by decide
    have up : ∀ h, bmS h .upper (.str w) [] = some (.str (Txt.upper w), h) := fun h => by
      unfold bmS
      simp only [strO, Option.bind_some]
      rw [if_pos (okZ_upper hw).2]
    have ws : addS (.str w) (.str "s") = some (.str (w ++ "s")) := add_ss (by omega)
    have wb : addS (.str w) (.str " ") = some (.str (w ++ " ")) := add_ss (by omega)
    have w1 : ∀ h, slcS h (.str w) none (some (-1)) = some (.str ⟨(cutA w.cps.toList none (some (-1))).toArray⟩) := fun h => slc_str W _ _
    have w2 : ∀ h, slcS h (.str w) (some 1) none = some (.str ⟨(cutA w.cps.toList (some 1) none).toArray⟩) := fun h => slc_str W _ _
    by_cases c2 : so < 4
    · obtain ⟨x, h5, x5, hx, S5, F5⟩ := pick_lst (lib m) (n := n + 1) (b := b + 25) (xs := [.str w, .str (w ++ "s"), .str ⟨(cutA w.cps.toList none (some (-1))).toArray⟩, .str (w ++ " "), .str (Txt.upper w), .str ⟨(cutA w.cps.toList (some 1) none).toArray⟩, .str "ask"]) (by simp) (by simp) S4
      have okx : okM x := by
        simp only [List.mem_cons, List.not_mem_nil, or_false] at hx
        rcases hx with rfl | rfl | rfl | rfl | rfl | rfl | rfl
        · exact W.m
        · exact (okZ_app W.ch (by decide +kernel) (by omega)).m
        · exact (okZ_cut W _ _).1.m
        · exact (okZ_app W.ch (by decide +kernel) (by omega)).m
        · exact (okZ_upper hw).1.m
        · exact (okZ_cut W _ _).1.m
        · exact (okZ_own (z := "ask") (by decide +kernel)).1.m
      refine go okx (S5.mono (by omega)) F5 ?_
      unfold callN
      rw [e2]
      simp only [d__law_thing, env0, List.length_cons, List.length_nil, if_true, List.map_cons, List.map_nil]
      rw [E0]
      have ty : ∀ h, tyM h .upper (.str w) = true := fun _ => rfl
      have eu : ∀ h, evE ((G m).tb (callN (G m) (n + 3))) (.bm .upper (.var 5) .nil) [some (.ref r), some (.lst (ownW.map AV.str)), some (.str z), some (.int so), none, some (.str w), some (.int sz), none, none, none] h = .ok (.str (Txt.upper w)) h := fun h => by
        simp [ty, up, pr2]
      simp [-ev_idx, -ev_bm, eu, call_s a1, own_ok, call_s (a2 _ _), x1, x2, x3, call_s (a3 _ _), x4, c1, c2, ws, wb, w1, w2, up, ty, pr2, mkL, partS, IE.isNop, intO, x5, SOut.fin]
    · obtain ⟨at_, h5, x5, t0, t1, S5, F5⟩ := take1 (m := m) (n + 2) (b := b + 25) (many := (z.length : Nat) + 1) S4 (by omega) (by omega)
      obtain ⟨y, h6, x6, ⟨sg, hsg, rfl⟩, S6, F6⟩ := pick_str (lib m) (n := n + 1) (b := b + 24) (z := ODD) (by decide +kernel) (by decide +kernel) S5
      obtain ⟨off, h7, x7, f0, f1, S7, F7⟩ := take1 (m := m) (n + 2) (b := b + 23) S6 (show (0 : Int) < 2 by decide) (by decide)
      obtain ⟨zA, lA⟩ := okZ_cut Z none (some at_)
      obtain ⟨zB, lB⟩ := okZ_cut Z (some (at_ + off)) none
      have p1 : ∀ h, slcS h (.str z) none (some at_) = some (.str ⟨(cutA z.cps.toList none (some at_)).toArray⟩) := fun h => slc_str Z _ _
      have p2 : ∀ h, slcS h (.str z) (some (at_ + off)) none = some (.str ⟨(cutA z.cps.toList (some (at_ + off)) none).toArray⟩) := fun h => slc_str Z _ _
      generalize (⟨(cutA z.cps.toList none (some at_)).toArray⟩ : Str) = A at zA lA p1
      generalize (⟨(cutA z.cps.toList (some (at_ + off)) none).toArray⟩ : Str) = B at zB lB p2
      have sl : (⟨#[sg]⟩ : Str).length = 1 := rfl
      have zS : ∀ c ∈ (⟨#[sg]⟩ : Str).cps.toList, c < 1000 := fun c hc => by
        have : c = sg := by simpa using hc
        rw [this]; exact odd_lt hsg
      have zAS := okZ_app zA.ch zS (by omega)
      have lAS : (A ++ ⟨#[sg]⟩ : Str).length = A.length + 1 := by rw [len_list, cps_append, List.length_append, ← len_list]; rfl
      have zT := okZ_app zAS.ch zB.ch (by omega)
      have q1 : addS (.str A) (.str ⟨#[sg]⟩) = some (.str (A ++ ⟨#[sg]⟩)) := add_ss (by omega)
      have q2 : addS (.str (A ++ ⟨#[sg]⟩)) (.str B) = some (.str (A ++ ⟨#[sg]⟩ ++ B)) := add_ss (by omega)
      generalize (A ++ ⟨#[sg]⟩ ++ B : Str) = bent at zT q2
      obtain ⟨x, h8, x8, hx, S8, F8⟩ := pick_lst (lib m) (n := n + 1) (b := b + 22) (xs := [.str bent, .str bent, .str bent, .non, .int 5, .bl true, .tup [.str w], .lst [.str z], .dct [.inr z] [.str z], .str "", .int 0, .tup [.str "box", .str "a"]]) (by simp) (by simp) S7
      have okx : okM x := by
        simp only [List.mem_cons, List.not_mem_nil, or_false] at hx
        rcases hx with rfl | rfl | rfl | rfl | rfl | rfl | rfl | rfl | rfl | rfl | rfl | rfl
        · exact zT.m
        · exact zT.m
        · exact zT.m
        · exact okM_non
        · exact okM_5
        · exact okM_tr
        · exact okM_tup W
        · exact okM_lst Z
        · exact okM_dct Z
        · exact okZ.m ⟨by decide, fun c hc => by cases hc⟩
        · exact okM_0
        · exact okM_box
      refine go okx (S8.mono (by omega)) (((F5.trans F6).trans F7).trans F8) ?_
      unfold callN
      rw [e2]
      simp only [d__law_thing, env0, List.length_cons, List.length_nil, if_true, List.map_cons, List.map_nil]
      rw [E0]
      have dk : ∀ h, mkD false [.str z] [.str z] h = .ok (.dct [.inr z] [.str z]) h := fun h => by
        unfold mkD
        rw [show keysA [.str z] = some [.inr z] from rfl]
        show ((if List.Nodup [Sum.inr z] ∧ _ ∧ _ then _ else _) : Out AV) = _
        rw [if_pos ⟨by simp, rfl, by simp⟩]
        rfl
      simp [-ev_idx, -ev_bm, call_s a1, own_ok, call_s (a2 _ _), x1, x2, x3, call_s (a3 _ _), x4, c1, c2, hl, x5, x6, p1, p2, partS, IE.isNop, x7, q1, q2, mkL, dk, x8, SOut.fin]
end
end Zk.L
namespace Zk.L
open PySem L2
/-- a list of texts, held against an empty one -/
theorem strs_data {h : AH} {n : Nat} : ∀ l : List Str, datAs h n (l.map AV.str) = some (l.map PyData.str)
  | [] => rfl
  | x :: l => by
    rw [List.map_cons, List.map_cons, datAs, strs_data l]
    rfl
theorem strs_lay : ∀ l : List Str, (∀ z ∈ l, PyData.strOk z = true) → PyData.canLayAll0 (l.map PyData.str) = true ∧ PyData.depthAll (l.map PyData.str) = 0
  | [], _ => ⟨rfl, rfl⟩
  | x :: l, hz => by
    obtain ⟨h1, h2⟩ := strs_lay l fun z hm => hz z (List.mem_cons_of_mem _ hm)
    rw [List.map_cons, PyData.canLayAll0, PyData.depthAll, h1, h2, PyData.canLay0, hz x List.mem_cons_self]
    exact ⟨rfl, rfl⟩
theorem strs_nil {h : AH} (l : List Str) (hz : ∀ z ∈ l, PyData.strOk z = true) : eqS h (.lst (l.map AV.str)) (.lst []) = some l.isEmpty := by
  obtain ⟨h1, h2⟩ := strs_lay l hz
  have s1 : SeqAt.shaped (.list (l.map PyData.str)) = true := by
    unfold SeqAt.shaped
    rw [PyData.canLay0, PyData.depth, h1, h2]
    rfl
  unfold eqS
  rw [if_neg (by simp [flatA])]
  simp only [deref, datA, strs_data, datAs, Option.map_some]
  rw [if_pos (by rw [s1]; rfl)]
  cases l <;> rfl
/-- is it one, but for its signs -/
def dueZ (z : Str) : Bool := decide (1 ≤ z.length) && (decide (z.length ≤ 8) && !(ownW.any (· == z)))
def due1 : AV → Bool
  | .str z => dueZ z
  | _ => false
theorem not_str {x : AV} (hn : ∀ T h, biS T h .isinst [x, .ty "str"] = some (.bl false)) {T : Tb} : due1 x = false ∧ isN x = false := by
  cases x with
  | str z =>
    have := (inst_str (T := T) (h := []) (z := z)).symm.trans (hn T [])
    cases this
  | _ => exact ⟨rfl, rfl⟩
def fSgn (x : AV) : Option AV := match x with
  | .str s => if isL (s.cps.getD 0 0) then none else some (.str s)
  | _ => none
theorem fSgn_c {c : Nat} : fSgn (.str ⟨#[c]⟩) = if isL c then none else some (.str ⟨#[c]⟩) := rfl
section
variable {m n : Nat} {h : AH} {r g b : Nat}
theorem nin_own {z : Str} : inS h (.str z) (.lst (ownW.map AV.str)) = some (ownW.any (· == z)) := rfl
theorem due1_ok {x : AV} (M : okM x) {ρ : En} (e4 : ρ[4]? = some (some x)) (e2 : ρ[2]? = some (some (.lst (ownW.map AV.str)))) :
    evE ((G m).tb (callN (G m) n)) (.land (.bi .isinst (.cons (.var 4) (.cons (.con "str") .nil))) (.land (.chn .le .le (.cst (.int 1)) (.bi .len (.cons (.var 4) .nil)) (.cst (.int 8))) (.cmp .notin (.var 4) (.var 2)))) ρ h = .ok (.bl (due1 x)) h := by
  have c1 : (G m).con "str" = some (.ty "str") := rfl
  rcases M.1 with ⟨z, rfl, Z⟩ | hn
  · have hl : ∀ T h, biS T h .len [.str z] = some (.int (z.length : Nat)) := fun T h => if_pos (Nat.le_trans (Nat.le_trans Z.len (by omega)) sizeLine_big)
    by_cases h1 : 1 ≤ z.length
    · have i1 : (1 : Int) ≤ (z.length : Nat) := by omega
      by_cases h8 : z.length ≤ 8
      · have i8 : ((z.length : Nat) : Int) ≤ 8 := by omega
        have : due1 (.str z) = !(ownW.any (· == z)) := by show dueZ z = _; unfold dueZ; rw [decide_eq_true h1, decide_eq_true h8]; rfl
        rw [this]
        cases ho : ownW.any (· == z) with
        | true => simp [c1, e4, e2, inst_str, hl, i1, i8, nin_own, ho]
        | false => simp [c1, e4, e2, inst_str, hl, i1, i8, nin_own, ho]
      · have i8 : ¬ ((z.length : Nat) : Int) ≤ 8 := by omega
        have : due1 (.str z) = false := by show dueZ z = _; unfold dueZ; rw [decide_eq_false h8]; simp
        rw [this]
        simp [c1, e4, e2, inst_str, hl, i1, i8]
    · have i1 : ¬ (1 : Int) ≤ (z.length : Nat) := by omega
      have : due1 (.str z) = false := by show dueZ z = _; unfold dueZ; rw [decide_eq_false h1]; rfl
      rw [this]
      simp [c1, e4, e2, inst_str, hl, i1]
  · rw [(not_str hn (T := (G m).tb (callN (G m) n))).1]
    simp [c1, e4, hn]
theorem due2_ok {x : AV} (M : okM x) {ρ : En} (e4 : ρ[4]? = some (some x)) (e6 : ρ[6]? = some (some (.bl (due1 x)))) (hl : 9 < ρ.length) :
    evE ((G m).tb (callN (G m) n)) (.land (.var 6) (.cmp .eq (.lc false [9] (.nm 9) (.val (.var 4)) (.val (.cmp .notin (.var 9) (.cst (.str "abcdefghijklmnopqrstuvwxyz")))) (.var 9)) (.lst false .nil))) ρ h = .ok (.bl (isN x)) h := by
  rcases M.1 with ⟨z, rfl, Z⟩ | hn
  · cases hd : due1 (.str z) with
    | false =>
      have : isN (.str z) = false := by
        show okName z = false
        have hd : (decide (1 ≤ z.length) && (decide (z.length ≤ 8) && !(ownW.any (· == z)))) = false := hd
        unfold okName
        rw [Bool.and_assoc (decide (1 ≤ z.length)), hd]
        rfl
      rw [this]
      rw [hd] at e6
      simp [e6]
    | true =>
      have : isN (.str z) = allL z := by
        show okName z = _
        have hd : (decide (1 ≤ z.length) && (decide (z.length ≤ 8) && !(ownW.any (· == z)))) = true := hd
        unfold okName
        rw [Bool.and_assoc (decide (1 ≤ z.length)), hd]
        rfl
      rw [this]
      rw [hd] at e6
      have hz : z.length ≤ sizeLine := Nat.le_trans (Nat.le_trans Z.len (by omega)) sizeLine_big
      have hcl : (z.cps.toList.map fun c => AV.str ⟨#[c]⟩).length ≤ sizeLine := by rw [List.length_map, Array.length_toList]; exact hz
      have lc : evE ((G m).tb (callN (G m) n)) (.lc false [9] (.nm 9) (.val (.var 4)) (.val (.cmp .notin (.var 9) (.cst (.str "abcdefghijklmnopqrstuvwxyz")))) (.var 9)) ρ h = .ok (.lst (((z.cps.toList.filter fun c => !isL c).map fun c => (⟨#[c]⟩ : Str)).map AV.str)) h := by
        rw [ev_lc, evi_val, ev_var, e4]
        show ((if (z.cps.toList.map fun c => AV.str ⟨#[c]⟩).length ≤ sizeLine then _ else _) : Out AV) = _
        rw [if_pos hcl]
        show (lcG (.one (.fix (z.cps.toList.map fun c => AV.str ⟨#[c]⟩))) _ (z.cps.toList.map fun c => AV.str ⟨#[c]⟩).length 0 [] h).bind _ = _
        rw [lcG_pure (F := fSgn) (fun x hx => ?_) _ 0 [] (by omega)]
        · rw [List.nil_append, List.drop_zero, List.filterMap_map]
          have : ∀ l : List Nat, l.filterMap (fSgn ∘ fun c => AV.str ⟨#[c]⟩) = ((l.filter fun c => !isL c).map fun c => (⟨#[c]⟩ : Str)).map AV.str := fun l => by
            induction l with
            | nil => rfl
            | cons c l ih =>
              rw [List.filterMap_cons, List.filter_cons, Function.comp_apply, fSgn_c]
              cases isL c with
              | true => exact ih
              | false => exact congrArg _ ih
          rw [this]
          rfl
        · obtain ⟨c, _, rfl⟩ := List.mem_map.mp hx
          cases hc : isL c with
          | true => simp [lcF, wipeA, hl, in_let, hc, fSgn_c]
          | false => simp [lcF, wipeA, hl, in_let, hc, fSgn_c]
      have em : ((z.cps.toList.filter fun c => !isL c).map fun c => (⟨#[c]⟩ : Str)).isEmpty = allL z := by
        unfold allL
        rw [List.isEmpty_map]
        induction z.cps.toList with
        | nil => rfl
        | cons c l ih =>
          rw [List.filter_cons, List.all_cons]
          cases isL c with
          | true => exact ih
          | false => rfl
      have eq := strs_nil (h := h) ((z.cps.toList.filter fun c => !isL c).map fun c => (⟨#[c]⟩ : Str)) (fun y hy => by
        obtain ⟨c, hc, rfl⟩ := List.mem_map.mp hy
        have := Z.ch c (List.mem_filter.mp hc).1
        unfold PyData.strOk
        simp
        omega)
      rw [em] at eq
      simp only [ev_land, ev_var, e6, Out.bind_ok, tru_bl, ev_cmp, lc, ev_lst, evs_nil, mkL, cmp_eq, eq, Option.map_some, pr_some, Bool.false_eq_true, if_false]
  · obtain ⟨h1, h2⟩ := not_str hn (T := (G m).tb (callN (G m) n))
    rw [h1] at e6
    rw [h2]
    simp [e6]
end
end Zk.L
namespace Zk.L
open PySem L2
/-- the names of law's own, while it goes -/
structure Row (ρ : En) (s : AV) (r : Nat) : Prop where
  ex : ∃ a3 a4 a5 a6 a7 a8 a9, ρ = [some s, some (.ref r), some (.lst (ownW.map AV.str)), a3, a4, a5, a6, a7, a8, a9]
theorem inst_bool {T : Tb} {h : AH} {k : Bool} : biS T h .isinst [.bl k, .ty "bool"] = some (.bl true) := by
  have : kitB "bool" "bool" = some true := by decide
  unfold biS isiS
  simp only [tyA, this, Option.map_some]
def lawBody : ISs := (.cons (.asg (.nm 4) (.call "_law_thing" (.cons (.var 1) .nil))) (.cons (.asg (.nm 5) (.bi .repr (.cons (.var 4) .nil))) (.cons (.asg (.nm 6) (.land (.bi .isinst (.cons (.var 4) (.cons (.con "str") .nil))) (.land (.chn .le .le (.cst (.int 1)) (.bi .len (.cons (.var 4) .nil)) (.cst (.int 8))) (.cmp .notin (.var 4) (.var 2))))) (.cons (.asg (.nm 6) (.land (.var 6) (.cmp .eq (.lc false [9] (.nm 9) (.val (.var 4)) (.val (.cmp .notin (.var 9) (.cst (.str "abcdefghijklmnopqrstuvwxyz")))) (.var 9)) (.lst false .nil)))) (.cons (.forS (.nm 7) (.val (.lst false (.cons (.call "is_name" (.cons (.var 4) .nil)) (.cons (.calk "is_name" .nil ["text"] (.cons (.var 4) .nil)) .nil)))) (.cons (.ifS (.lor (.lnot (.val (.bi .isinst (.cons (.var 7) (.cons (.con "bool") .nil))))) (.lor (.val (.cmp .ne (.var 7) (.var 6))) (.val (.cmp .ne (.bi .repr (.cons (.var 4) .nil)) (.var 5))))) (.cons (.ret (.cst (.bl false))) .nil) .nil) .nil)) .nil)))))
section
variable {m n : Nat} {h : AH} {r g b : Nat}
theorem turn_ok (n : Nat) {ρ : En} {s : AV} {k : AV} (R : Row ρ s r) (S : St h r g (b + 40)) :
    ∃ ρ' h', exSs ((G m).tb (callN (G m) (n + 4))) lawBody (ρ.set 3 (some k)) h = .nx ρ' h' ∧ Row ρ' s r ∧ St h' r g b ∧ Fr h h' r g := by
  obtain ⟨a3, a4, a5, a6, a7, a8, a9, rfl⟩ := R.ex
  obtain ⟨x, h', e, M, S', F⟩ := thing_ok (m := m) n S
  obtain ⟨cs, hcs⟩ := M.2
  have a1 : (G m).arr "_law_thing" [.ref r] [] [] = some [.ref r] := rfl
  have b1 : (G m).arr "is_name" [x] [] [] = some [x] := rfl
  have b2 : (G m).arr "is_name" [] ["text"] [x] = some [x] := rfl
  have c1 : (G m).con "bool" = some (.ty "bool") := rfl
  have rp : ∀ T h, biS T h .repr [x] = some (.str cs) := fun T h => hcs h
  have d1 := due1_ok (m := m) (n := n + 4) (h := h') M (ρ := [some s, some (.ref r), some (.lst (ownW.map AV.str)), some k, some x, some (.str cs), a6, a7, a8, a9]) rfl rfl
  have d2 := due2_ok (m := m) (n := n + 4) (h := h') M (ρ := [some s, some (.ref r), some (.lst (ownW.map AV.str)), some k, some x, some (.str cs), some (.bl (due1 x)), a7, a8, a9]) rfl rfl (by simp)
  have n1 := is_name_ok (m := m) (n := n + 3) (h := h') M
  have lp := forG_inv (xs := [.bl (isN x), .bl (isN x)]) (tg := .nm 7) (b := fun ρ h => exSs ((G m).tb (callN (G m) (n + 4))) (.cons (.ifS (.lor (.lnot (.val (.bi .isinst (.cons (.var 7) (.cons (.con "bool") .nil))))) (.lor (.val (.cmp .ne (.var 7) (.var 6))) (.val (.cmp .ne (.bi .repr (.cons (.var 4) .nil)) (.var 5))))) (.cons (.ret (.cst (.bl false))) .nil) .nil) .nil) ρ h)
    (P := fun i ρ h => (∃ a7, ρ = [some s, some (.ref r), some (.lst (ownW.map AV.str)), some k, some x, some (.str cs), some (.bl (isN x)), a7, a8, a9]) ∧ h = h') (fun i y ρ hh hi p => by
      obtain ⟨⟨a7, rfl⟩, rfl⟩ := p
      have hy : y = .bl (isN x) := by
        have := List.mem_of_getElem? hi
        simpa using this
      subst hy
      refine ⟨[some s, some (.ref r), some (.lst (ownW.map AV.str)), some k, some x, some (.str cs), some (.bl (isN x)), some (.bl (isN x)), a8, a9], rfl, _, hh, .inl ?_, ⟨some (.bl (isN x)), rfl⟩, rfl⟩
      simp [c1, inst_bool, rp])
  obtain ⟨ρ', h'', e3, ⟨a7', rfl⟩, rfl⟩ := lp 2 0 [some s, some (.ref r), some (.lst (ownW.map AV.str)), some k, some x, some (.str cs), some (.bl (isN x)), a7, a8, a9] h' rfl ⟨⟨a7, rfl⟩, rfl⟩
  refine ⟨[some s, some (.ref r), some (.lst (ownW.map AV.str)), some k, some x, some (.str cs), some (.bl (isN x)), a7', a8, a9], h'', ?_, ⟨⟨_, _, _, _, _, _, _, rfl⟩⟩, S', F⟩
  unfold lawBody
  rw [exs_cons, ex_asg]
  simp only [ev_call, evs_cons, ev_var, evs_nil, List.set_cons_succ, List.set_cons_zero, List.getElem?_cons_succ, List.getElem?_cons_zero, Out.bind_ok, call_s a1, e, Out.go_ok, evg_nm, List.length_cons, List.length_nil]
  rw [if_pos (by decide)]
  simp only [SOut.seq_nx]
  rw [exs_cons, ex_asg]
  simp only [ev_bi, evs_cons, ev_var, evs_nil, List.getElem?_cons_succ, List.getElem?_cons_zero, Out.bind_ok, rp, pr_some, Out.go_ok, evg_nm, List.set_cons_succ, List.set_cons_zero, List.length_cons, List.length_nil]
  rw [if_pos (by decide)]
  simp only [SOut.seq_nx]
  rw [exs_cons, ex_asg, d1]
  simp only [Out.go_ok, evg_nm, List.set_cons_succ, List.set_cons_zero, List.length_cons, List.length_nil]
  rw [if_pos (by decide)]
  simp only [SOut.seq_nx]
  rw [exs_cons, ex_asg, d2]
  simp only [Out.go_ok, evg_nm, List.set_cons_succ, List.set_cons_zero, List.length_cons, List.length_nil]
  rw [if_pos (by decide)]
  simp only [SOut.seq_nx]
  rw [exs_cons, ex_for]
  simp only [evi_val, ev_lst, ev_call, ev_calk, evs_cons, ev_var, evs_nil, List.getElem?_cons_succ, List.getElem?_cons_zero, Out.bind_ok, call_s b1, call_s b2, n1, mkL, Bool.false_eq_true, if_false, pr_some, Out.go_ok, srcA, srcL, Option.map_some]
  show (forG _ _ _ 2 0 _ _).seq _ = _
  rw [e3]
  rfl
theorem rg_ok {ns : List Int} {ρ : En} (e : ρ[0]? = some (some (.lst (ns.map AV.int)))) : evE ((G m).tb (callN (G m) n)) (.bin .add (.cst (.int 8)) (.bi .min2 (.cons (.bi .len (.cons (.var 0) .nil)) (.cons (.cst (.int 55)) .nil)))) ρ h = .ok (.int ((8 + min ns.length 55 : Nat) : Int)) h := by
  have l1 : ∀ T h, biS T h .len [.lst (ns.map AV.int)] = some (.int (ns.length : Nat)) := fun T h => by
    show some (AV.int ((ns.map AV.int).length : Nat)) = _
    rw [List.length_map]
  have l2 : ∀ T h, biS T h .min2 [.int (ns.length : Nat), .int 55] = some (.int ((min ns.length 55 : Nat) : Int)) := fun T h => by
    show some (AV.int (if (55 : Int) < (ns.length : Nat) then 55 else (ns.length : Nat))) = _
    congr 2
    omega
  simp only [ev_bin, ev_cst, ev_bi, evs_cons, ev_var, e, evs_nil, Out.bind_ok, l1, l2, pr_some, bin_add, add_ii]
  have : (8 : Int) + ((min ns.length 55 : Nat) : Int) = ((8 + min ns.length 55 : Nat) : Int) := by omega
  rw [this]
theorem loop_ok (n : Nat) {s : AV} (k : Nat) (hk : k ≤ 63) (S : St h r g 4000) : ∃ ρ' h2, forG (.one (.fix (rngA 0 (k : Int)))) (.nm 3) (fun ρ h => exSs ((G m).tb (callN (G m) (n + 4))) lawBody ρ h) (rngA 0 (k : Int)).length 0 [some s, some (.ref r), some (.lst (ownW.map AV.str)), none, none, none, none, none, none, none] h = .nx ρ' h2 ∧ Row ρ' s r := by
  have rl : (rngA 0 (k : Int)).length = k := by unfold rngA; rw [List.length_map, List.length_range]; omega
  obtain ⟨ρ', h2, x2, R2, _⟩ := forG_inv (xs := rngA 0 (k : Int)) (tg := .nm 3) (b := fun ρ h => exSs ((G m).tb (callN (G m) (n + 4))) lawBody ρ h)
    (P := fun i ρ h => Row ρ s r ∧ St h r g (4000 - 40 * i)) (fun i x ρ hh hi p => by
      have hi' := lt_of hi
      obtain ⟨R, S⟩ := p
      have eb : 4000 - 40 * i = (4000 - 40 * (i + 1)) + 40 := by omega
      rw [eb] at S
      obtain ⟨ρ', h', k1, k2, k3, _⟩ := turn_ok (m := m) n (k := x) R S
      refine ⟨ρ.set 3 (some x), ?_, ρ', h', .inl k1, k2, k3⟩
      obtain ⟨a3, a4, a5, a6, a7, a8, a9, rfl⟩ := R.ex
      rfl) (rngA 0 (k : Int)).length 0 _ h (by omega) ⟨⟨⟨none, none, none, none, none, none, none, rfl⟩⟩, S⟩
  exact ⟨ρ', h2, x2, R2⟩
theorem last_ok {s : AV} {a3 a4 a5 a6 a7 a8 a9 : Option AV} : evE ((G m).tb (callN (G m) (n + 1))) (.lc false [8] (.nm 8) (.val (.var 2)) (.val (.call "is_name" (.cons (.var 8) .nil))) (.var 8)) [some s, some (.ref r), some (.lst (ownW.map AV.str)), a3, a4, a5, a6, a7, a8, a9] h = .ok (.lst []) h := by
  have ar : ∀ x, (G m).arr "is_name" [x] [] [] = some [x] := fun _ => rfl
  rw [ev_lcV (v := .lst (ownW.map AV.str)) (h' := h) (xs := ownW.map AV.str) (by rw [ev_var]; rfl) rfl (by decide)]
  rw [lcG_pure (F := fun _ => none) (fun x hx => ?_) _ 0 [] (by omega)]
  · simp [mkL]
  · obtain ⟨w, hw, rfl⟩ := List.mem_map.mp hx
    have nm := is_name_ok (m := m) (n := n) (h := h) (okZ_own hw).1.m
    have : isN (.str w) = false := by
      have k : ownW.all (fun w => !okName w) = true := by decide +kernel
      have := List.all_eq_true.mp k w hw
      show okName w = false
      simpa using this
    rw [this] at nm
    simp [lcF, wipeA, call_s (ar _), nm]
theorem law_ok {ns : List Int} (hl : ns.length ≤ 63) : ∃ h', callN (G m) (n + 8) "law" [.lst (ns.map AV.int)] [] = .ok (.bl true) h' := by
  have e2 : (G m).fns "law" = some d_law := rfl
  obtain ⟨h1, x1, S1, _⟩ := begun_ok (lib m) (n := n + 6) (h := []) hl
  have a1 : ∀ x, (G m).arr "_law_begun" [x] [] [] = some [x] := fun _ => rfl
  have a2 : (G m).arr "_law_own" [] [] [] = some [] := rfl
  obtain ⟨ρ', h2, x2, R2⟩ := loop_ok (m := m) (n + 3) (s := .lst (ns.map AV.int)) (8 + min ns.length 55) (by omega) (S1.mono (c := 4000) (by decide))
  obtain ⟨a3, a4, a5, a6, a7, a8, a9, rfl⟩ := R2.ex
  refine ⟨h2, ?_⟩
  unfold callN
  rw [e2]
  simp only [d_law, env0, List.length_cons, List.length_nil, if_true, List.map_cons, List.map_nil]
  have E0 : ([some (AV.lst (ns.map AV.int))] ++ List.replicate (0 + 1 + 1 + 1 + 1 + 1 + 1 + 1 + 1 + 1 + 1 - (0 + 1)) none : En) = [some (.lst (ns.map AV.int)), none, none, none, none, none, none, none, none, none] := rfl
  rw [E0]
  rw [exs_cons, ex_asg]
  simp only [ev_call, evs_cons, ev_var, evs_nil, List.getElem?_cons_zero, Out.bind_ok, call_s (a1 _), x1, Out.go_ok, evg_nm, List.length_cons, List.length_nil]
  rw [if_pos (by decide)]
  simp only [SOut.seq_nx]
  rw [exs_cons, ex_asg]
  simp only [ev_call, evs_nil, Out.bind_ok, call_s a2, own_ok, Out.go_ok, evg_nm, List.set_cons_succ, List.set_cons_zero, List.length_cons, List.length_nil]
  rw [if_pos (by decide)]
  simp only [SOut.seq_nx]
  rw [exs_cons, ex_forR (rg_ok rfl) (by omega) (by omega)]
  have x3 : forG (.one (.fix (rngA 0 ((8 + min ns.length 55 : Nat) : Int)))) (.nm 3) (fun ρ h => exSs ((G m).tb (callN (G m) (n + 7))) lawBody ρ h) (rngA 0 ((8 + min ns.length 55 : Nat) : Int)).length 0 [some (.lst (ns.map AV.int)), some (.ref (0 + 1)), some (.lst (ownW.map AV.str)), none, none, none, none, none, none, none] h1 = .nx _ h2 := x2
  unfold lawBody at x3
  rw [x3, SOut.seq_nx, exs_cons, ex_ret, ev_cmp, last_ok, Out.bind_ok, ev_lst, evs_nil, Out.bind_ok]
  rfl
theorem law_of {K : Fg} {mg : Str → Option Value} (O : ∀ n, PrgOk K mg (G n) bls fss) : Law K mg "law" := fun ns hl _ => by
  obtain ⟨h', e⟩ := law_ok (m := 0) (n := 0) hl
  exact ⟨G 0, bls, fss, 8, h', O 0, by decide, rfl, e⟩
end
end Zk.L
open PySem PySem.W PyProof.Rows
set_option maxRecDepth 100000 in
set_option maxHeartbeats 0 in
theorem PySem.Challenge.cw_frozenmakers_k02_names_known_holds : PySem.Challenge.rw_frozenmakers_k02_names_known.Holds := by
  w_on; o_law; k_head; (case hw => w_witness2)
  k_fill
  refine Zk.walk (l := PySem.Challenge.rw_frozenmakers_k02_names_known) rfl rfl (fun w h Y => PySem.W.kIn_of Y) ?F
  case F =>
    intro w mg h KX Gm
    refine' Zk.L.law_of (Zk.L.all_mk KX Gm ?a0 ?l0 ?c0 ?k0 ?a1 ?l1 ?c1 ?k1 ?a2 ?l2 ?c2 ?k2 ?a3 ?l3 ?c3 ?k3 ?a4 ?l4 ?c4 ?k4 ?a5 ?l5 ?c5 ?k5 ?a6 ?l6 ?c6 ?k6 ?z0 ?z1 ?z2 ?z3 ?z4 ?z5 ?z6 ?z7 ?mc0 ?cw0 ?mc1 ?cw1 ?mc2 ?q2 ?cw2)
    (case a0 => k_is)
    (case l0 => k_is)
    (case c0 => k_is)
    (case k0 => k_is)
    (case a1 => k_is)
    (case l1 => k_is)
    (case c1 => k_is)
    (case k1 => k_is)
    (case a2 => k_is)
    (case l2 => k_is)
    (case c2 => k_is)
    (case k2 => k_is)
    (case a3 => k_is)
    (case l3 => k_is)
    (case c3 => k_is)
    (case k3 => k_is)
    (case a4 => k_is)
    (case l4 => k_is)
    (case c4 => k_is)
    (case k4 => k_is)
    (case a5 => k_is)
    (case l5 => k_is)
    (case c5 => k_is)
    (case k5 => k_is)
    (case a6 => k_is)
    (case l6 => k_is)
    (case c6 => k_is)
    (case k6 => k_is)
    (case z0 => k_is)
    (case z1 => k_is)
    (case z2 => k_is)
    (case z3 => k_is)
    (case z4 => k_is)
    (case z5 => k_is)
    (case z6 => k_is)
    (case z7 => k_is)
    (case mc0 => k_is)
    (case cw0 => rfl)
    (case mc1 => k_is)
    (case cw1 => rfl)
    (case mc2 => k_is)
    (case q2 => k_is)
    (case cw2 => rfl)
#print axioms PySem.Challenge.cw_frozenmakers_k02_names_known_holds
