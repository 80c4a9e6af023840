import PyProof.Rows.All
import Wide.All
import OpenK.AllK
import Wide.FinOn
import HandS.ForMost
import HandS.IsInst
import HandS.Deep
import HandS.Zip
import HandS.Flow
import HandS.TryOnly
import HandS.Wide
import HandS.Evl
import KE.SortData
import HandS.TupAny
import HandS.Style
import HandS.ListItems
import HandS.Conv
import HandS.More
import PySem.Challenge.RW_wordforword_k02_machines_known
set_option Elab.async false
set_option autoImplicit false
set_option linter.all false
set_option maxRecDepth 100000
set_option maxHeartbeats 4000000
/-! The Deep layer, 1: values as data of any depth (Rp), the frozen part of a heap, what an expression means by data. -/
namespace DD
open PySem PySem.Spec PyProof.Rows L2
open Evl (Ex)

def keyD : Key → PyData
  | .inl i => .int i
  | .inr x => .str x

mutual
/-- v stands for the datum, by what F tells -/
inductive Rp (F : Hp) : V → PyData → Prop
  | non : Rp F .non .none
  | bl (b : Bool) : Rp F (.bl b) (.bool b)
  | int (i : Int) : Rp F (.int i) (.int i)
  | str (x : Str) : Rp F (.str x) (.str x)
  | lst {a : Addr} {xs : List V} {ds : List PyData} : F a = some (.lst xs) → RpA F xs ds → Rp F (.ref a) (.list ds)
  | tup {a : Addr} {xs : List V} {ds : List PyData} : F a = some (.tup xs) → RpA F xs ds → Rp F (.ref a) (.tuple ds)
  | dK {a : Addr} {kvs : List (Key × V)} {es : List (PyData × PyData)} : F a = some (.dK kvs) → RpK F kvs es → Rp F (.ref a) (.dict es)
  | dT {a : Addr} {kvs : List (List Key × V)} {es : List (PyData × PyData)} : F a = some (.dT kvs) → kvs ≠ [] → RpT F kvs es → Rp F (.ref a) (.dict es)
inductive RpA (F : Hp) : List V → List PyData → Prop
  | nil : RpA F [] []
  | cons {v : V} {vs : List V} {d : PyData} {ds : List PyData} : Rp F v d → RpA F vs ds → RpA F (v :: vs) (d :: ds)
inductive RpK (F : Hp) : List (Key × V) → List (PyData × PyData) → Prop
  | nil : RpK F [] []
  | cons {k : Key} {v : V} {r : List (Key × V)} {d : PyData} {e : List (PyData × PyData)} : Rp F v d → RpK F r e → RpK F ((k, v) :: r) ((keyD k, d) :: e)
inductive RpT (F : Hp) : List (List Key × V) → List (PyData × PyData) → Prop
  | nil : RpT F [] []
  | cons {k : List Key} {v : V} {r : List (List Key × V)} {d : PyData} {e : List (PyData × PyData)} : Rp F v d → RpT F r e → RpT F ((k, v) :: r) ((.tuple (k.map keyD), d) :: e)
end

mutual
theorem Rp.mono {F F' : Hp} (e : Ex F F') : ∀ {v : V} {d : PyData}, Rp F v d → Rp F' v d
  | _, _, .non => .non
  | _, _, .bl b => .bl b
  | _, _, .int i => .int i
  | _, _, .str x => .str x
  | _, _, .lst h r => .lst (e _ _ h) (RpA.mono e r)
  | _, _, .tup h r => .tup (e _ _ h) (RpA.mono e r)
  | _, _, .dK h r => .dK (e _ _ h) (RpK.mono e r)
  | _, _, .dT h n r => .dT (e _ _ h) n (RpT.mono e r)
theorem RpA.mono {F F' : Hp} (e : Ex F F') : ∀ {v : List V} {d : List PyData}, RpA F v d → RpA F' v d
  | _, _, .nil => .nil
  | _, _, .cons h r => .cons (Rp.mono e h) (RpA.mono e r)
theorem RpK.mono {F F' : Hp} (e : Ex F F') : ∀ {v : List (Key × V)} {d : List (PyData × PyData)}, RpK F v d → RpK F' v d
  | _, _, .nil => .nil
  | _, _, .cons h r => .cons (Rp.mono e h) (RpK.mono e r)
theorem RpT.mono {F F' : Hp} (e : Ex F F') : ∀ {v : List (List Key × V)} {d : List (PyData × PyData)}, RpT F v d → RpT F' v d
  | _, _, .nil => .nil
  | _, _, .cons h r => .cons (Rp.mono e h) (RpT.mono e r)
end

theorem RpA.length {F : Hp} : ∀ {xs : List V} {ds : List PyData}, RpA F xs ds → xs.length = ds.length
  | _, _, .nil => rfl
  | _, _, .cons _ r => congrArg (· + 1) r.length
theorem RpA.get {F : Hp} : ∀ {xs : List V} {ds : List PyData} {i : Nat} {d : PyData}, RpA F xs ds → ds[i]? = some d → ∃ v, xs[i]? = some v ∧ Rp F v d
  | _, _, _, _, .nil, e => by simp at e
  | _, _, 0, _, .cons r _, e => by simp at e; subst e; exact ⟨_, rfl, r⟩
  | _, _, i + 1, d, .cons _ t, e => by
    obtain ⟨u, h1, h2⟩ := RpA.get (i := i) (d := d) t (by simpa using e)
    exact ⟨u, by simpa using h1, h2⟩
theorem RpA.getV {F : Hp} : ∀ {xs : List V} {ds : List PyData} {i : Nat} {v : V}, RpA F xs ds → xs[i]? = some v → ∃ d, ds[i]? = some d ∧ Rp F v d
  | _, _, _, _, .nil, e => by simp at e
  | _, _, 0, _, .cons r _, e => by simp at e; subst e; exact ⟨_, rfl, r⟩
  | _, _, i + 1, d, .cons _ t, e => by
    obtain ⟨u, h1, h2⟩ := RpA.getV (i := i) (v := d) t (by simpa using e)
    exact ⟨u, by simpa using h1, h2⟩
theorem RpA.append {F : Hp} : ∀ {xs ys : List V} {ds es : List PyData}, RpA F xs ds → RpA F ys es → RpA F (xs ++ ys) (ds ++ es)
  | _, _, _, _, .nil, s => s
  | _, _, _, _, .cons r t, s => .cons r (t.append s)
theorem RpA.one {F : Hp} {v : V} {d : PyData} (h : Rp F v d) : RpA F [v] [d] := .cons h .nil
theorem RpA.take {F : Hp} : ∀ {xs : List V} {ds : List PyData} (n : Nat), RpA F xs ds → RpA F (xs.take n) (ds.take n)
  | _, _, 0, _ => by simpa using RpA.nil
  | _, _, _ + 1, .nil => by simpa using RpA.nil
  | _, _, n + 1, .cons r t => by simpa using RpA.cons r (t.take n)
theorem RpA.drop {F : Hp} : ∀ {xs : List V} {ds : List PyData} (n : Nat), RpA F xs ds → RpA F (xs.drop n) (ds.drop n)
  | _, _, 0, r => r
  | _, _, _ + 1, .nil => by simpa using RpA.nil
  | _, _, n + 1, .cons _ t => by simpa using t.drop n
theorem RpA.set {F : Hp} {v : V} {d : PyData} (h : Rp F v d) : ∀ {xs : List V} {ds : List PyData} (i : Nat), RpA F xs ds → RpA F (xs.set i v) (ds.set i d)
  | _, _, _, .nil => .nil
  | _, _, 0, .cons _ t => .cons h t
  | _, _, i + 1, .cons q t => .cons q (t.set h i)
theorem RpA.reverse {F : Hp} : ∀ {xs : List V} {ds : List PyData}, RpA F xs ds → RpA F xs.reverse ds.reverse
  | _, _, .nil => .nil
  | _, _, .cons h t => by
    rw [List.reverse_cons, List.reverse_cons]
    exact t.reverse.append (.one h)
theorem RpA.ints {F : Hp} : ∀ ns : List Int, RpA F (ns.map V.int) (ns.map PyData.int)
  | [] => .nil
  | n :: ns => .cons (.int n) (RpA.ints ns)
theorem RpA.ofInts {F : Hp} : ∀ {ns : List Int} {xs : List V}, RpA F xs (ns.map PyData.int) → xs = ns.map V.int
  | [], _, .nil => rfl
  | n :: ns, _, .cons h t => by
    cases h
    rw [RpA.ofInts t]
    rfl
theorem RpA.ofBools {F : Hp} : ∀ {bs : List Bool} {xs : List V}, RpA F xs (bs.map PyData.bool) → xs = bs.map V.bl
  | [], _, .nil => rfl
  | n :: ns, _, .cons h t => by
    cases h
    rw [RpA.ofBools t]
    rfl
theorem RpA.of_vlist {F : Hp} {xs : List V} {ds : List PyData} (h : xs.length = ds.length) (hi : ∀ (i : Nat) (v : V) (d : PyData), xs[i]? = some v → ds[i]? = some d → Rp F v d) : RpA F xs ds := by
  induction xs generalizing ds with
  | nil => cases ds with
    | nil => exact .nil
    | cons _ _ => simp at h
  | cons x xs ih => cases ds with
    | nil => simp at h
    | cons d ds => exact .cons (hi 0 x d rfl rfl) (ih (by simpa using h) fun i v d h1 h2 => hi (i + 1) v d (by simpa using h1) (by simpa using h2))

mutual
def flatD : PyData → Bool
  | .list xs => flatDs xs
  | .tuple xs => flatDs xs
  | .dict _ => false
  | _ => true
def flatDs : List PyData → Bool
  | [] => true
  | x :: xs => flatD x && flatDs xs
end
mutual
theorem Rp.dp {K : PySem.W.Frag} {F H : Hp} (e : Ex F H) : ∀ {v : V} {d : PyData}, Rp F v d → flatD d = true → Dp K H v d
  | _, _, .non, _ => .non
  | _, _, .bl b, _ => .bl b
  | _, _, .int i, _ => .int i
  | _, _, .str x, _ => .str x
  | _, _, .lst h r, q => .lst (SqL.of (e _ _ h)) (RpA.dp e r (by simpa [flatD] using q))
  | _, _, .tup h r, q => .tup (SqT.of (e _ _ h)) (RpA.dp e r (by simpa [flatD] using q))
  | _, _, .dK h r, q => by simp [flatD] at q
  | _, _, .dT h _ r, q => by simp [flatD] at q
theorem RpA.dp {K : PySem.W.Frag} {F H : Hp} (e : Ex F H) : ∀ {v : List V} {d : List PyData}, RpA F v d → flatDs d = true → DpAll K H v d
  | _, _, .nil, _ => .nil
  | _, _, .cons h r, q => by
    rw [flatDs, Bool.and_eq_true] at q
    exact .cons (Rp.dp e h q.1) (RpA.dp e r q.2)
end
/-- may be compared by == : no dict within, laid shallow enough -/
def okD (d : PyData) : Bool := flatD d && SeqAt.shaped d

/-! ### heaps -/
abbrev Zn := Option (Addr × Addr)
def Zv : Zn → Addr → Prop
  | none, _ => False
  | some (a, b), c => c = a ∨ c = b
structure Grow (z : Zn) (F H F' H' : Hp) : Prop where
  keep : ∀ b o, ¬ Zv z b → H b = some o → H' b = some o
  dom : ∀ b, H' b = none → H b = none
  ext : Ex F F'
  sub : Ex F' H'
  new : ∀ b, H b ≠ none → F b = none → F' b = none ∨ ∃ xs, F' b = some (.tup xs)
theorem Grow.refl {z : Zn} {F H : Hp} (e : Ex F H) : Grow z F H F H := ⟨fun _ _ _ h => h, fun _ h => h, Evl.Ex.refl F, e, fun _ _ h => .inl h⟩
theorem Grow.trans {z : Zn} {F H F1 H1 F2 H2 : Hp} (a : Grow z F H F1 H1) (b : Grow z F1 H1 F2 H2) : Grow z F H F2 H2 where
  keep := fun c o n h => b.keep c o n (a.keep c o n h)
  dom := fun c h => a.dom c (b.dom c h)
  ext := a.ext.trans b.ext
  sub := b.sub
  new := fun c h1 h2 => (a.new c h1 h2).elim (fun q => b.new c (fun q => h1 (a.dom c q)) q) fun ⟨xs, q⟩ => .inr ⟨xs, b.ext c _ q⟩
/-- an object of a def's own is not frozen by another -/
theorem Grow.apart {z : Zn} {F H F1 H1 : Hp} {l : Addr} {o : HO} (a : Grow z F H F1 H1) (h : H l = some o) (hz : ¬ Zv z l) (ho : ∀ xs, o ≠ .tup xs) (hf : F l = none) : F1 l = none := by
  rcases a.new l (by rw [h]; simp) hf with q | ⟨xs, q⟩
  · exact q
  · have e1 := a.sub l _ q
    rw [a.keep l o hz h] at e1
    exact absurd (Option.some.inj e1) (ho xs)
theorem Grow.weak {z : Zn} {F H F1 H1 : Hp} (a : Grow none F H F1 H1) : Grow z F H F1 H1 := ⟨fun c o _ h => a.keep c o (fun q => q) h, a.dom, a.ext, a.sub, a.new⟩
theorem Grow.ex {F H F1 H1 : Hp} (a : Grow none F H F1 H1) : Ex H H1 := fun c o h => a.keep c o (fun q => q) h
/-- a new object, frozen at once -/
theorem Grow.laid {z : Zn} {F H : Hp} {p : Addr} {o : HO} (e : Ex F H) (hp : H p = none) : Grow z F H (upd F p o) (upd H p o) where
  keep := fun b u _ h => by rw [upd_ne (ne_of_none h hp)]; exact h
  dom := fun b h => by
    by_cases hb : b = p
    · subst hb; exact hp
    · rwa [upd_ne hb] at h
  ext := fun b u h => by
    rw [upd_ne (ne_of_none (e b u h) hp)]; exact h
  sub := fun b u h => by
    by_cases hb : b = p
    · subst hb; rw [upd_same] at h ⊢; exact h
    · rw [upd_ne hb] at h ⊢; exact e b u h
  new := fun b h1 h2 => by
    by_cases hb : b = p
    · subst hb; exact absurd hp h1
    · rw [upd_ne hb]; exact .inl h2
/-- a new object, not frozen -/
theorem Grow.fresh {z : Zn} {F H : Hp} {p : Addr} {o : HO} (e : Ex F H) (hp : H p = none) : Grow z F H F (upd H p o) where
  keep := fun b u _ h => by rw [upd_ne (ne_of_none h hp)]; exact h
  dom := fun b h => by
    by_cases hb : b = p
    · subst hb; exact hp
    · rwa [upd_ne hb] at h
  ext := Evl.Ex.refl F
  sub := fun b u h => by
    have := e b u h
    rw [upd_ne (ne_of_none this hp)]; exact this
  new := fun b _ h2 => .inl h2

/-- the stream of draws at z, asked at most n times -/
def Stm (z : Zn) (n : Nat) (H : Hp) : Prop := match z with
  | none => True
  | some (st, sl) => ∃ (ns : List Int) (c k m : Int), H st = some (.lst [.ref sl, .int c, .int k, .int m]) ∧ H sl = some (.lst (ns.map V.int)) ∧ 0 ≤ c ∧ 0 ≤ k ∧ k ≤ n ∧ 0 ≤ m ∧ m < 2147483647 ∧ sl ≠ st
theorem Stm.there {z : Zn} {n : Nat} {H : Hp} (h : Stm z n H) {b : Addr} (hb : Zv z b) : H b ≠ none := by
  cases z with
  | none => exact hb.elim
  | some p =>
    obtain ⟨st, sl⟩ := p
    obtain ⟨ns, c, k, m, h1, h2, _⟩ := h
    rcases hb with hb | hb
    · rw [hb, h1]; simp
    · rw [hb, h2]; simp
theorem Stm.ex {z : Zn} {n : Nat} {H H' : Hp} (e : Ex H H') (h : Stm z n H) : Stm z n H' := by
  cases z with
  | none => trivial
  | some p =>
    obtain ⟨st, sl⟩ := p
    obtain ⟨ns, c, k, m, h1, h2, r⟩ := h
    exact ⟨ns, c, k, m, e _ _ h1, e _ _ h2, r⟩
theorem Stm.upd {z : Zn} {n : Nat} {H : Hp} {p : Addr} {o : HO} (h : Stm z n H) (hp : ¬ Zv z p) : Stm z n (upd H p o) := by
  cases z with
  | none => trivial
  | some q =>
    obtain ⟨st, sl⟩ := q
    obtain ⟨ns, c, k, m, h1, h2, r⟩ := h
    exact ⟨ns, c, k, m, by rw [upd_ne (fun e => hp (Or.inl e.symm))]; exact h1, by rw [upd_ne (fun e => hp (Or.inr e.symm))]; exact h2, r⟩

theorem Stm.lst {z : Zn} {n : Nat} {H : Hp} (h : Stm z n H) {b : Addr} (hb : Zv z b) : ∃ xs, H b = some (.lst xs) := by
  cases z with
  | none => exact hb.elim
  | some p =>
    obtain ⟨st, sl⟩ := p
    obtain ⟨ns, c, k, m, h1, h2, _⟩ := h
    rcases hb with q | q
    · exact ⟨_, by rw [q]; exact h1⟩
    · exact ⟨_, by rw [q]; exact h2⟩
theorem Stm.off {z : Zn} {n : Nat} {F H F1 H1 : Hp} (hs : Stm z n H1) (g : Grow z F H F1 H1) {b : Addr} (hb : Zv z b) (h : H b ≠ none) (hf : F b = none) : F1 b = none := by
  rcases g.new b h hf with q | ⟨xs, q⟩
  · exact q
  · obtain ⟨ys, e⟩ := hs.lst hb
    rw [g.sub b _ q] at e
    cases e
/-! ### slots -/
inductive S where
  | no
  | val (d : PyData)
  | own (ds : List PyData)
  | ownD (es : List (PyData × PyData))
  | stm
def S.owns : S → Bool
  | .own _ => true
  | .ownD _ => true
  | _ => false
/-- at l stands the dict es, of the def's own -/
def DAt (F H : Hp) (l : Addr) (es : List (PyData × PyData)) : Prop := (∃ kvs, H l = some (.dK kvs) ∧ RpK F kvs es) ∨ ∃ kvs, H l = some (.dT kvs) ∧ kvs ≠ [] ∧ RpT F kvs es
theorem DAt.there {F H : Hp} {l : Addr} {es : List (PyData × PyData)} (h : DAt F H l es) : H l ≠ none := by
  rcases h with ⟨_, e, _⟩ | ⟨_, e, _⟩ <;> rw [e] <;> simp
theorem DAt.apart {z : Zn} {F H F' H' : Hp} {l : Addr} {es : List (PyData × PyData)} (h : DAt F H l es) (g : Grow z F H F' H') (hz : ¬ Zv z l) (hf : F l = none) : F' l = none := by
  rcases h with ⟨kvs, a, r⟩ | ⟨kvs, a, n, r⟩
  · exact g.apart a hz (fun _ q => nomatch q) hf
  · exact g.apart a hz (fun _ q => nomatch q) hf
theorem DAt.grow {F H F' H' : Hp} {l : Addr} {es : List (PyData × PyData)} (h : DAt F H l es) (e : Ex F F') (k : ∀ o, H l = some o → H' l = some o) : DAt F' H' l es := by
  rcases h with ⟨kvs, a, r⟩ | ⟨kvs, a, n, r⟩
  · exact .inl ⟨kvs, k _ a, r.mono e⟩
  · exact .inr ⟨kvs, k _ a, n, r.mono e⟩
structure En where
  s : List S
  n : Nat
def SR (z : Zn) (B F H : Hp) (o : Option V) : S → Prop
  | .no => True
  | .val d => ∃ v, o = some v ∧ Rp F v d
  | .own ds => ∃ l xs, o = some (.ref l) ∧ F l = none ∧ ¬ Zv z l ∧ H l = some (.lst xs) ∧ RpA F xs ds ∧ B l = none
  | .ownD es => ∃ l, o = some (.ref l) ∧ F l = none ∧ ¬ Zv z l ∧ DAt F H l es ∧ B l = none
  | .stm => ∃ a b, z = some (a, b) ∧ o = some (.ref a)
structure Sit (z : Zn) (B : Hp) (σ : L2.St) (H F : Hp) (en : En) : Prop where
  sub : Ex F H
  stm : Stm z en.n H
  off : ∀ b, Zv z b → F b = none
  len : σ.length = en.s.length
  slot : ∀ (i : Nat) (s : S), en.s[i]? = some s → ∃ o, σ[i]? = some o ∧ SR z B F H o s
  sep : ∀ (i j : Nat) (a b : S) (l : Addr), i ≠ j → en.s[i]? = some a → en.s[j]? = some b → a.owns = true → b.owns = true → σ[i]? = some (some (V.ref l)) → σ[j]? ≠ some (some (V.ref l))
theorem SR.grow {z : Zn} {B F H F' H' : Hp} {o : Option V} {s : S} (h : SR z B F H o s) (g : Grow z F H F' H') : SR z B F' H' o s := by
  cases s with
  | no => trivial
  | val d => obtain ⟨v, e, r⟩ := h; exact ⟨v, e, r.mono g.ext⟩
  | own ds =>
    obtain ⟨l, xs, e, h1, h2, h3, h4, h5⟩ := h
    exact ⟨l, xs, e, g.apart h3 h2 (fun _ q => nomatch q) h1, h2, g.keep _ _ h2 h3, h4.mono g.ext, h5⟩
  | ownD es =>
    obtain ⟨l, e, h1, h2, h3, h5⟩ := h
    exact ⟨l, e, h3.apart g h2 h1, h2, h3.grow g.ext fun o => g.keep _ o h2, h5⟩
  | stm => exact h
theorem Sit.grow {z : Zn} {B : Hp} {σ : L2.St} {H F H' F' : Hp} {en : En} {n' : Nat} (t : Sit z B σ H F en) (g : Grow z F H F' H') (hs : Stm z n' H') : Sit z B σ H' F' ⟨en.s, n'⟩ where
  sub := g.sub
  stm := hs
  off := fun b hb => hs.off g hb (t.stm.there hb) (t.off b hb)
  len := t.len
  slot := fun i s e => by
    obtain ⟨o, h1, h2⟩ := t.slot i s e
    exact ⟨o, h1, h2.grow g⟩
  sep := t.sep
/-- a slot gets a value -/
theorem Sit.set {z : Zn} {B : Hp} {σ : L2.St} {H F : Hp} {en : En} {v : V} {d : PyData} (t : Sit z B σ H F en) (i : Nat) (r : Rp F v d) : Sit z B (σ.set i (some v)) H F ⟨en.s.set i (.val d), en.n⟩ where
  sub := t.sub
  stm := t.stm
  off := t.off
  len := by simpa using t.len
  slot := fun j s e => by
    by_cases hj : i = j
    · subst hj
      have hl : i < en.s.length := by
        have := (List.getElem?_eq_some_iff.mp e).1
        simpa using this
      rw [List.getElem?_set_self hl] at e
      cases e
      exact ⟨some v, by rw [List.getElem?_set_self (by rw [t.len]; exact hl)], v, rfl, r⟩
    · rw [List.getElem?_set_ne hj] at e ⊢
      exact t.slot j s e
  sep := fun j k a b l hjk h1 h2 o1 o2 h3 => by
    by_cases hj : i = j
    · subst hj
      have hl : i < en.s.length := by
        have := (List.getElem?_eq_some_iff.mp h1).1
        simpa using this
      simp only [List.getElem?_set_self hl] at h1
      cases h1
      exact absurd o1 Bool.false_ne_true
    · by_cases hk : i = k
      · subst hk
        have hl : i < en.s.length := by
          have := (List.getElem?_eq_some_iff.mp h2).1
          simpa using this
        simp only [List.getElem?_set_self hl] at h2
        cases h2
        exact absurd o2 Bool.false_ne_true
      · simp only [List.getElem?_set_ne hj] at h1 h3
        simp only [List.getElem?_set_ne hk] at h2 ⊢
        exact t.sep j k a b l hjk h1 h2 o1 o2 h3
/-- a slot gets nothing (forgotten) -/
theorem Sit.wipe1 {z : Zn} {B : Hp} {σ : L2.St} {H F : Hp} {en : En} (t : Sit z B σ H F en) (i : Nat) : Sit z B (σ.set i none) H F ⟨en.s.set i .no, en.n⟩ where
  sub := t.sub
  stm := t.stm
  off := t.off
  len := by simpa using t.len
  slot := fun j s e => by
    by_cases hj : i = j
    · subst hj
      have hl : i < en.s.length := by
        have := (List.getElem?_eq_some_iff.mp e).1
        simpa using this
      rw [List.getElem?_set_self hl] at e
      cases e
      exact ⟨none, by rw [List.getElem?_set_self (by rw [t.len]; exact hl)], trivial⟩
    · rw [List.getElem?_set_ne hj] at e ⊢
      exact t.slot j s e
  sep := fun j k a b l hjk h1 h2 o1 o2 h3 => by
    by_cases hj : i = j
    · subst hj
      have hl : i < en.s.length := by
        have := (List.getElem?_eq_some_iff.mp h1).1
        simpa using this
      simp only [List.getElem?_set_self hl] at h1
      cases h1
      exact absurd o1 Bool.false_ne_true
    · by_cases hk : i = k
      · subst hk
        have hl : i < en.s.length := by
          have := (List.getElem?_eq_some_iff.mp h2).1
          simpa using this
        simp only [List.getElem?_set_self hl] at h2
        cases h2
        exact absurd o2 Bool.false_ne_true
      · simp only [List.getElem?_set_ne hj] at h1 h3
        simp only [List.getElem?_set_ne hk] at h2 ⊢
        exact t.sep j k a b l hjk h1 h2 o1 o2 h3
def wipeE (en : En) : List Nat → En
  | [] => en
  | v :: vs => ⟨(wipeE en vs).s.set v .no, en.n⟩
theorem wipeE_n (en : En) : ∀ vs, (wipeE en vs).n = en.n
  | [] => rfl
  | _ :: _ => rfl
theorem Sit.wipe {z : Zn} {B : Hp} {σ : L2.St} {H F : Hp} {en : En} (t : Sit z B σ H F en) : ∀ vs : List Nat, Sit z B (L2.wipe σ vs) H F (wipeE en vs)
  | [] => t
  | v :: vs => by
    have h := (t.wipe vs).wipe1 v
    rw [wipeE_n] at h
    exact h
/-- a slot gets a fresh object of its own -/
theorem Sit.setO {z : Zn} {B : Hp} {σ : L2.St} {H F : Hp} {en : En} {l : Addr} {u : S} (t : Sit z B σ H F en) (i : Nat) (ou : SR z B F H (some (.ref l)) u)
    (hn : ∀ (j : Nat) (b : S), j ≠ i → en.s[j]? = some b → b.owns = true → σ[j]? ≠ some (some (V.ref l))) : Sit z B (σ.set i (some (.ref l))) H F ⟨en.s.set i u, en.n⟩ where
  sub := t.sub
  stm := t.stm
  off := t.off
  len := by simpa using t.len
  slot := fun j s e => by
    by_cases hj : i = j
    · subst hj
      have hl : i < en.s.length := by
        have := (List.getElem?_eq_some_iff.mp e).1
        simpa using this
      rw [List.getElem?_set_self hl] at e
      cases e
      exact ⟨some (.ref l), by rw [List.getElem?_set_self (by rw [t.len]; exact hl)], ou⟩
    · rw [List.getElem?_set_ne hj] at e ⊢
      exact t.slot j s e
  sep := fun j k es fs m hjk e1 e2 o1 o2 e3 => by
    by_cases hj : i = j
    · subst hj
      have hl : i < σ.length := by
        have := (List.getElem?_eq_some_iff.mp e3).1
        simpa using this
      simp only [List.getElem?_set_self hl] at e3
      cases e3
      simp only [List.getElem?_set_ne hjk] at e2 ⊢
      exact hn k fs (Ne.symm hjk) e2 o2
    · simp only [List.getElem?_set_ne hj] at e1 e3
      by_cases hk : i = k
      · subst hk
        have hl : i < en.s.length := by
          have := (List.getElem?_eq_some_iff.mp e2).1
          simpa using this
        simp only [List.getElem?_set_self (show i < σ.length by rw [t.len]; exact hl)]
        intro q
        cases q
        exact hn j es hjk e1 o1 e3
      · simp only [List.getElem?_set_ne hk] at e2 ⊢
        exact t.sep j k es fs m hjk e1 e2 o1 o2 e3
theorem Sit.setOwn {z : Zn} {B : Hp} {σ : L2.St} {H F : Hp} {en : En} {l : Addr} {xs : List V} {ds : List PyData} (t : Sit z B σ H F en) (i : Nat) (h1 : F l = none) (h2 : ¬ Zv z l) (h3 : H l = some (.lst xs)) (h4 : RpA F xs ds) (h5 : B l = none)
    (hn : ∀ (j : Nat) (b : S), j ≠ i → en.s[j]? = some b → b.owns = true → σ[j]? ≠ some (some (V.ref l))) : Sit z B (σ.set i (some (.ref l))) H F ⟨en.s.set i (.own ds), en.n⟩ := t.setO i ⟨l, xs, rfl, h1, h2, h3, h4, h5⟩ hn
/-- an own object stands somewhere -/
theorem Sit.ownAt {z : Zn} {B : Hp} {σ : L2.St} {H F : Hp} {en : En} {j : Nat} {b : S} {l : Addr} (t : Sit z B σ H F en) (h : en.s[j]? = some b) (hb : b.owns = true) (hl : σ[j]? = some (some (V.ref l))) : H l ≠ none := by
  obtain ⟨o, h1, h2⟩ := t.slot j b h
  rw [hl] at h1
  cases h1
  cases b with
  | own ds => obtain ⟨m, ys, q, _, _, e, _⟩ := h2; cases q; rw [e]; simp
  | ownD es => obtain ⟨m, q, _, _, e, _⟩ := h2; cases q; exact e.there
  | _ => exact absurd hb Bool.false_ne_true
/-- an own object is frozen -/
theorem Sit.frz {z : Zn} {B : Hp} {σ : L2.St} {H F : Hp} {en : En} {i : Nat} {a : S} {l : Addr} {o : HO} {d : PyData} (s : Sit z B σ H F en) (h : en.s[i]? = some a) (ha : a.owns = true) (h1 : σ[i]? = some (some (.ref l))) (h2 : F l = none) (h3 : ¬ Zv z l) (h4 : H l = some o)
    (r : ∀ F', Ex F F' → F' l = some o → Rp F' (.ref l) d) : Sit z B σ H (upd F l o) ⟨en.s.set i (.val d), en.n⟩ := by
  have hi : i < en.s.length := (List.getElem?_eq_some_iff.mp h).1
  have eF : Ex F (upd F l o) := fun b u e => by rw [upd_ne (ne_of_none e h2)]; exact e
  exact {
    sub := fun b u e => by
      by_cases hb : b = l
      · subst hb; rw [upd_same] at e; cases e; exact h4
      · rw [upd_ne hb] at e; exact s.sub b u e
    stm := s.stm
    off := fun b hb => by
      have hbl : b ≠ l := fun q => h3 (by rw [← q]; exact hb)
      rw [upd_ne hbl]; exact s.off b hb
    len := by simpa using s.len
    slot := fun j t e => by
      by_cases hj : i = j
      · subst hj
        simp only [List.getElem?_set_self hi] at e
        cases e
        exact ⟨_, h1, .ref l, rfl, r _ eF upd_same⟩
      · simp only [List.getElem?_set_ne hj] at e
        obtain ⟨o', e1, e2⟩ := s.slot j t e
        refine ⟨o', e1, ?_⟩
        cases t with
        | no => trivial
        | val d => obtain ⟨v, a, r⟩ := e2; exact ⟨v, a, r.mono eF⟩
        | own es =>
          obtain ⟨m, ys, a1, a2, a3, a4, a5, a6⟩ := e2
          have hm : m ≠ l := fun q => by
            subst q
            subst a1
            exact s.sep i j _ _ m hj h e ha rfl h1 e1
          exact ⟨m, ys, a1, by rw [upd_ne hm]; exact a2, a3, a4, a5.mono eF, a6⟩
        | ownD es =>
          obtain ⟨m, a1, a2, a3, a4, a6⟩ := e2
          have hm : m ≠ l := fun q => by
            subst q
            subst a1
            exact s.sep i j _ _ m hj h e ha rfl h1 e1
          exact ⟨m, a1, by rw [upd_ne hm]; exact a2, a3, a4.grow eF fun _ q => q, a6⟩
        | stm => exact e2
    sep := fun j k es fs m hjk e1 e2 o1 o2 e3 => by
      by_cases hj : i = j
      · subst hj
        simp only [List.getElem?_set_self hi] at e1
        cases e1
        exact absurd o1 Bool.false_ne_true
      · by_cases hk : i = k
        · subst hk
          simp only [List.getElem?_set_self hi] at e2
          cases e2
          exact absurd o2 Bool.false_ne_true
        · simp only [List.getElem?_set_ne hj] at e1
          simp only [List.getElem?_set_ne hk] at e2
          exact s.sep j k es fs m hjk e1 e2 o1 o2 e3 }
/-- an own object is changed -/
theorem Sit.rewrite {z : Zn} {B : Hp} {σ : L2.St} {H F : Hp} {en : En} {i : Nat} {a u : S} {l : Addr} {o : HO} (s : Sit z B σ H F en) (h : en.s[i]? = some a) (ha : a.owns = true) (hu : u.owns = true) (hl : σ[i]? = some (some (.ref l))) (h2 : F l = none) (h3 : ¬ Zv z l)
    (r : SR z B F (upd H l o) (some (.ref l)) u) : Sit z B σ (upd H l o) F ⟨en.s.set i u, en.n⟩ := by
  have hi : i < en.s.length := (List.getElem?_eq_some_iff.mp h).1
  exact {
    sub := fun b u q => by
      rw [upd_ne (ne_of_none q h2)]
      exact s.sub b u q
    stm := s.stm.upd h3
    off := s.off
    len := by simpa using s.len
    slot := fun j x q => by
      by_cases hj : i = j
      · subst hj
        simp only [List.getElem?_set_self hi] at q
        cases q
        exact ⟨_, hl, r⟩
      · simp only [List.getElem?_set_ne hj] at q
        obtain ⟨o', a1, a2⟩ := s.slot j x q
        refine ⟨o', a1, ?_⟩
        cases x with
        | no => trivial
        | val d => exact a2
        | own fs =>
          obtain ⟨m, zs, b1, b2, b3, b4, b5, b6⟩ := a2
          have hm : m ≠ l := fun q2 => by
            subst q2
            subst b1
            exact s.sep i j _ _ m hj h q ha rfl hl a1
          exact ⟨m, zs, b1, b2, b3, by rw [upd_ne hm]; exact b4, b5, b6⟩
        | ownD fs =>
          obtain ⟨m, b1, b2, b3, b4, b6⟩ := a2
          have hm : m ≠ l := fun q2 => by
            subst q2
            subst b1
            exact s.sep i j _ _ m hj h q ha rfl hl a1
          exact ⟨m, b1, b2, b3, b4.grow (fun _ _ q => q) fun o q => by rw [upd_ne hm]; exact q, b6⟩
        | stm => exact a2
    sep := fun j k fs gs m hjk q1 q2 o1 o2 q3 => by
      have key : ∀ (j : Nat) (b : S), (en.s.set i u)[j]? = some b → b.owns = true → ∃ c, en.s[j]? = some c ∧ c.owns = true := fun j b q ob => by
        by_cases hj : i = j
        · subst hj; exact ⟨a, h, ha⟩
        · simp only [List.getElem?_set_ne hj] at q; exact ⟨b, q, ob⟩
      obtain ⟨f1, g1, p1⟩ := key j fs q1 o1
      obtain ⟨f2, g2, p2⟩ := key k gs q2 o2
      exact s.sep j k f1 f2 m hjk g1 g2 p1 p2 q3 }
end DD
/-! The Deep layer, 2: what an expression means by data (w), and the rules. -/
namespace DD
open PySem PySem.Spec PyProof.Rows L2
open Evl (Ex)

abbrev WE := En → (PyData → Nat → Prop) → Prop
abbrev WT := En → (Bool → Nat → Prop) → Prop
abbrev WA := En → (List PyData → Nat → Prop) → Prop
def Den (z : Zn) (t : TE) (w : WE) : Prop := ∀ (B : Hp) (σ : L2.St) (H F : Hp) (en : En), Sit z B σ H F en → ∀ (P : PyData → Nat → Prop) (Q : VK), w en P →
  (∀ v H' F' d n, Grow z F H F' H' → Stm z n H' → Rp F' v d → P d n → Q v H') → t σ H Q
def DenT (z : Zn) (t : TT) (w : WT) : Prop := ∀ (B : Hp) (σ : L2.St) (H F : Hp) (en : En), Sit z B σ H F en → ∀ (P : Bool → Nat → Prop) (Q : Bool → Hp → Prop), w en P →
  (∀ b H' F' n, Grow z F H F' H' → Stm z n H' → P b n → Q b H') → t σ H Q
def DenA (z : Zn) (t : TA) (w : WA) : Prop := ∀ (B : Hp) (σ : L2.St) (H F : Hp) (en : En), Sit z B σ H F en → ∀ (P : List PyData → Nat → Prop) (Q : List V → Hp → Prop), w en P →
  (∀ vs H' F' ds n, Grow z F H F' H' → Stm z n H' → RpA F' vs ds → P ds n → Q vs H') → t σ H Q
/-- a fresh list, of its own -/
def DenL (z : Zn) (t : TE) (w : WA) : Prop := ∀ (B : Hp) (σ : L2.St) (H F : Hp) (en : En), Sit z B σ H F en → ∀ (P : List PyData → Nat → Prop) (Q : VK), w en P →
  (∀ l xs H' F' ds n, Grow z F H F' H' → Stm z n H' → H l = none → F' l = none → H' l = some (.lst xs) → RpA F' xs ds → P ds n → Q (.ref l) H') → t σ H Q
structure JE (z : Zn) (X : Cx) (e : Expr) (t : TE) (w : WE) : Prop where
  pe : PE X e t
  de : Den z t w
structure JT (z : Zn) (X : Cx) (e : Expr) (t : TT) (w : WT) : Prop where
  pt : PT X e t
  de : DenT z t w
structure JW (z : Zn) (X : Cx) (e : Expr) (t : TT) (w : WT) : Prop where
  pw : PW X e t
  de : DenT z t w
structure JA (z : Zn) (X : Cx) (es : List Expr) (t : TA) (w : WA) : Prop where
  pa : PA X es t
  de : DenA z t w
structure JL (z : Zn) (X : Cx) (e : Expr) (t : TE) (w : WA) : Prop where
  pe : PE X e t
  de : DenL z t w

/-- an object that is in the heap, not frozen, is frozen from now on -/
theorem Grow.freeze {z : Zn} {F H F' H' : Hp} {l : Addr} {o : HO} (g : Grow z F H F' H') (hn : H l = none) (hl : H' l = some o) (hF : F' l = none) : Grow z F H (L2.upd F' l o) H' where
  keep := g.keep
  dom := g.dom
  ext := fun b u h => by
    have h1 := g.ext b u h
    rw [upd_ne (ne_of_none h1 hF)]; exact h1
  sub := fun b u h => by
    by_cases hb : b = l
    · subst hb; rw [upd_same] at h; cases h; exact hl
    · rw [upd_ne hb] at h; exact g.sub b u h
  new := fun b h1 h2 => by
    by_cases hb : b = l
    · subst hb; exact absurd hn h1
    · rw [upd_ne hb]; exact g.new b h1 h2
theorem ex_upd {F : Hp} {l : Addr} {o : HO} (h : F l = none) : Ex F (L2.upd F l o) := fun b u e => by rw [upd_ne (ne_of_none e h)]; exact e

section
variable {z : Zn} {X : Cx} {e a b : Expr} {t ta tb : TE} {pos p : Pos}
/-! ### names, constants -/
@[simp] def wVar (i : Nat) : WE := fun en P => ∃ d, en.s[i]? = some (.val d) ∧ P d en.n
theorem je_var (i : Nat) {x : Str} (hN : X.N[i]? = some x := by rfl) (hv : Vis X.env.scope x := by first | exact Or.inl rfl | exact Or.inr (Or.inl rfl) | exact Or.inr (Or.inr rfl)) (hd : (x == ("__debug__" : Str)) = false := by decide)
    (hcd : (x == ("__classdict__" : Str)) = false := by decide) : JE z X (.Name x pos) (tVar i) (wVar i) where
  pe := pe_var hN hv hd hcd
  de := fun B σ H F en t P Q hw k => by
    obtain ⟨d, h1, h2⟩ := hw
    obtain ⟨o, h3, v, rfl, r⟩ := t.slot i _ h1
    exact ⟨v, h3, k v H F d en.n (Grow.refl t.sub) t.stm r h2⟩
@[simp] def wC (d : PyData) : WE := fun en P => P d en.n
theorem den_c {v : V} {d : PyData} (h : ∀ F, Rp F v d) : Den z (tC v) (wC d) := fun B σ H F en t P Q hw k => k v H F d en.n (Grow.refl t.sub) t.stm (h F) hw
theorem je_int {i : Int} {j} : JE z X (.Constant (.int i) j pos) (tC (.int i)) (wC (.int i)) := ⟨pe_int, den_c fun _ => .int i⟩
theorem je_bl {i : Bool} {j} : JE z X (.Constant (.bool i) j pos) (tC (.bl i)) (wC (.bool i)) := ⟨pe_bl, den_c fun _ => .bl i⟩
theorem je_non {j} : JE z X (.Constant .none j pos) (tC .non) (wC .none) := ⟨pe_non, den_c fun _ => .non⟩
theorem je_str {i : Str} {j} : JE z X (.Constant (.str i) j pos) (tC (.str i)) (wC (.str i)) := ⟨pe_str, den_c fun _ => .str i⟩

/-! ### argument lists -/
@[simp] def wNil : WA := fun en P => P [] en.n
@[simp] def wCons (w : WE) (r : WA) : WA := fun en P => w en fun d n => r ⟨en.s, n⟩ fun ds n' => P (d :: ds) n'
theorem ja_nil : JA z X [] tNil wNil := ⟨pa_nil, fun B σ H F en t P Q hw k => k [] H F [] en.n (Grow.refl t.sub) t.stm .nil hw⟩
theorem ja_cons {es : List Expr} {tr : TA} {w : WE} {wr : WA} (h : JE z X e t w) (hr : JA z X es tr wr) (hs : starEach (e :: es) X.env = (false, eval e X.env) :: starEach es X.env := by rfl) : JA z X (e :: es) (tCons t tr) (wCons w wr) where
  pa := pa_cons h.pe hr.pa hs
  de := fun B σ H F en s P Q hw k => by
    refine h.de B σ H F en s _ _ hw fun v H1 F1 d n1 g1 s1 r1 q1 => ?_
    refine hr.de B σ H1 F1 _ (s.grow g1 s1) _ _ q1 fun vs H2 F2 ds n2 g2 s2 r2 q2 => ?_
    exact k _ H2 F2 _ n2 (g1.trans g2) s2 (.cons (r1.mono g2.ext) r2) q2

/-! ### two operands -/
/-- an operation on two values, by data -/
def DenR (z : Zn) (r : R2) (f : PyData → PyData → (PyData → Prop) → Prop) : Prop := ∀ (H F : Hp) (x y : V) (d e : PyData) (P : PyData → Prop) (Q : VK), Ex F H → Rp F x d → Rp F y e → f d e P →
  (∀ v H' F' d', Grow none F H F' H' → Rp F' v d' → P d' → Q v H') → r x y H Q
@[simp] def wOp (f : PyData → PyData → (PyData → Prop) → Prop) (wa wb : WE) : WE := fun en P => wa en fun d n => wb ⟨en.s, n⟩ fun e n' => f d e fun r => P r n'
theorem den_op {r : R2} {f : PyData → PyData → (PyData → Prop) → Prop} {wa wb : WE} (hr : DenR z r f) (ha : Den z ta wa) (hb : Den z tb wb) : Den z (tOp r ta tb) (wOp f wa wb) := fun B σ H F en s P Q hw k => by
  refine ha B σ H F en s _ _ hw fun v H1 F1 d n1 g1 s1 r1 q1 => ?_
  refine hb B σ H1 F1 _ (s.grow g1 s1) _ _ q1 fun u H2 F2 e n2 g2 s2 r2 q2 => ?_
  refine hr H2 F2 v u d e _ _ g2.sub (r1.mono g2.ext) r2 q2 fun y H3 F3 d' g3 r3 q3 => ?_
  exact k y H3 F3 d' n2 ((g1.trans g2).trans g3.weak) (s2.ex g3.ex) r3 q3
theorem je_bin {op : Operator} {r : R2} {f : PyData → PyData → (PyData → Prop) → Prop} {wa wb : WE} (ho : OpR X (binaryOp op) r) (hr : DenR z r f) (ha : JE z X a ta wa) (hb : JE z X b tb wb) : JE z X (.BinOp a op b pos) (tOp r ta tb) (wOp f wa wb) :=
  ⟨pe_op ho ha.pe hb.pe, den_op hr ha.de hb.de⟩
theorem je_cmp {op : CmpOp} {r : R2} {f : PyData → PyData → (PyData → Prop) → Prop} {wa wb : WE} (ho : OpR X (compareOp op) r) (hr : DenR z r f) (ha : JE z X a ta wa) (hb : JE z X b tb wb) (hm : behindInMarks op b = false := by first | exact nomark _ | rfl) : JE z X (.Compare a [op] [b] pos) (tOp r ta tb) (wOp f wa wb) :=
  ⟨pe_cmpR ho ha.pe hb.pe hm, den_op hr ha.de hb.de⟩
theorem Grow.stay {F H : Hp} (e : Ex F H) : Grow none F H F H := Grow.refl e
@[simp] def fI (C : Int → Int → Prop) (g : Int → Int → PyData) : PyData → PyData → (PyData → Prop) → Prop := fun d e P => ∃ i j, d = .int i ∧ e = .int j ∧ C i j ∧ P (g i j)
@[simp] def fI0 (g : Int → Int → PyData) : PyData → PyData → (PyData → Prop) → Prop := fun d e P => ∃ i j, d = .int i ∧ e = .int j ∧ P (g i j)
theorem den_I0 {g : Int → Int → V} {h : Int → Int → PyData} (hg : ∀ F i j, Rp F (g i j) (h i j)) : DenR z (rI0 g) (fI0 h) := by
  intro H F x y d e P Q s rx ry hf k
  obtain ⟨i, j, rfl, rfl, q⟩ := hf
  cases rx
  cases ry
  exact ⟨i, j, rfl, rfl, k _ H F _ (Grow.stay s) (hg F i j) q⟩
theorem den_I {C : Int → Int → Prop} {g : Int → Int → V} {h : Int → Int → PyData} (hg : ∀ F i j, Rp F (g i j) (h i j)) : DenR z (rI C g) (fI C h) := by
  intro H F x y d e P Q s rx ry hf k
  obtain ⟨i, j, rfl, rfl, c, q⟩ := hf
  cases rx
  cases ry
  exact ⟨i, j, rfl, rfl, c, k _ H F _ (Grow.stay s) (hg F i j) q⟩
def kR (r : PySem.W.Frag → R2) : R2 := fun x y H Q => ∀ K, r K x y H Q
theorem kR_ok {f : Value → Value → Sem Value} {r : PySem.W.Frag → R2} (h : OpR X f (r X.K)) : OpR X f (kR r) := fun pins s σ H x y v u Q I rx ry q => h pins s σ H x y v u Q I rx ry (q X.K)
/-- == and != of data -/
@[simp] def fEq : PyData → PyData → (PyData → Prop) → Prop := fun d e P => okD d = true ∧ okD e = true ∧ P (.bool (PyData.eqv d e))
@[simp] def fNe : PyData → PyData → (PyData → Prop) → Prop := fun d e P => okD d = true ∧ okD e = true ∧ P (.bool (!PyData.eqv d e))
theorem okD_flat {d : PyData} (h : okD d = true) : flatD d = true ∧ SeqAt.shaped d = true := by
  unfold okD at h
  rwa [Bool.and_eq_true] at h
theorem den_eq : DenR z (kR rEqD) fEq := by
  intro H F x y d e P Q s rx ry hf k K
  obtain ⟨h1, h2, q⟩ := hf
  exact ⟨d, e, rx.dp s (okD_flat h1).1, ry.dp s (okD_flat h2).1, (okD_flat h1).2, (okD_flat h2).2, k _ H F _ (Grow.stay s) (.bl _) q⟩
theorem den_ne : DenR z (kR rNeD) fNe := by
  intro H F x y d e P Q s rx ry hf k K
  obtain ⟨h1, h2, q⟩ := hf
  exact ⟨d, e, rx.dp s (okD_flat h1).1, ry.dp s (okD_flat h2).1, (okD_flat h1).2, (okD_flat h2).2, k _ H F _ (Grow.stay s) (.bl _) q⟩
/-- in, not in a list -/
@[simp] def fIn : PyData → PyData → (PyData → Prop) → Prop := fun d e P => ∃ ds, e = .list ds ∧ okD d = true ∧ okD (.list ds) = true ∧ P (.bool (ds.any fun z => PyData.eqv z d))
@[simp] def fNotIn : PyData → PyData → (PyData → Prop) → Prop := fun d e P => ∃ ds, e = .list ds ∧ okD d = true ∧ okD (.list ds) = true ∧ P (.bool (!ds.any fun z => PyData.eqv z d))
theorem den_in : DenR z (kR rInD) fIn := by
  intro H F x y d e P Q s rx ry hf k K
  obtain ⟨ds, rfl, h1, h2, q⟩ := hf
  exact ⟨d, ds, rx.dp s (okD_flat h1).1, ry.dp s (okD_flat h2).1, (okD_flat h1).2, (okD_flat h2).2, k _ H F _ (Grow.stay s) (.bl _) q⟩
theorem den_notIn : DenR z (kR rNotInD) fNotIn := by
  intro H F x y d e P Q s rx ry hf k K
  obtain ⟨ds, rfl, h1, h2, q⟩ := hf
  exact ⟨d, ds, rx.dp s (okD_flat h1).1, ry.dp s (okD_flat h2).1, (okD_flat h1).2, (okD_flat h2).2, k _ H F _ (Grow.stay s) (.bl _) q⟩
/-! ints -/
section
variable {wa wb : WE}
theorem je_add (ha : JE z X a ta wa) (hb : JE z X b tb wb) : JE z X (.BinOp a .Add b pos) (tOp (rI0 fun i j => .int (i + j)) ta tb) (wOp (fI0 fun i j => .int (i + j)) wa wb) := je_bin op_add (den_I0 fun _ _ _ => .int _) ha hb
theorem je_sub (ha : JE z X a ta wa) (hb : JE z X b tb wb) : JE z X (.BinOp a .Sub b pos) (tOp (rI0 fun i j => .int (i - j)) ta tb) (wOp (fI0 fun i j => .int (i - j)) wa wb) := je_bin op_sub (den_I0 fun _ _ _ => .int _) ha hb
theorem je_mul (ha : JE z X a ta wa) (hb : JE z X b tb wb) : JE z X (.BinOp a .Mult b pos) (tOp (rI CMul fun i j => .int (i * j)) ta tb) (wOp (fI CMul fun i j => .int (i * j)) wa wb) := je_bin op_mul (den_I fun _ _ _ => .int _) ha hb
theorem je_lt (ha : JE z X a ta wa) (hb : JE z X b tb wb) : JE z X (.Compare a [.Lt] [b] pos) (tOp (rI0 fun i j => .bl (decide (i < j))) ta tb) (wOp (fI0 fun i j => .bool (decide (i < j))) wa wb) := je_cmp op_lt (den_I0 fun _ _ _ => .bl _) ha hb
theorem je_le (ha : JE z X a ta wa) (hb : JE z X b tb wb) : JE z X (.Compare a [.LtE] [b] pos) (tOp (rI0 fun i j => .bl (decide (i ≤ j))) ta tb) (wOp (fI0 fun i j => .bool (decide (i ≤ j))) wa wb) := je_cmp op_le (den_I0 fun _ _ _ => .bl _) ha hb
theorem je_gt (ha : JE z X a ta wa) (hb : JE z X b tb wb) : JE z X (.Compare a [.Gt] [b] pos) (tOp (rI0 fun i j => .bl (decide (j < i))) ta tb) (wOp (fI0 fun i j => .bool (decide (j < i))) wa wb) := je_cmp op_gt (den_I0 fun _ _ _ => .bl _) ha hb
theorem je_ge (ha : JE z X a ta wa) (hb : JE z X b tb wb) : JE z X (.Compare a [.GtE] [b] pos) (tOp (rI0 fun i j => .bl (decide (j ≤ i))) ta tb) (wOp (fI0 fun i j => .bool (decide (j ≤ i))) wa wb) := je_cmp op_ge (den_I0 fun _ _ _ => .bl _) ha hb
theorem je_eq {k : Nat} (hr : Room k X.A) (ha : JE z X a ta wa) (hb : JE z X b tb wb) : JE z X (.Compare a [.Eq] [b] pos) (tOp (kR rEqD) ta tb) (wOp fEq wa wb) := je_cmp (kR_ok (op_eqD hr.units)) den_eq ha hb
theorem je_ne {k : Nat} (hr : Room k X.A) (ha : JE z X a ta wa) (hb : JE z X b tb wb) : JE z X (.Compare a [.NotEq] [b] pos) (tOp (kR rNeD) ta tb) (wOp fNe wa wb) := je_cmp (kR_ok (op_neD hr.units)) den_ne ha hb
theorem units65 {k : Nat} {A : Around} (r : Room k A) : A.units + 65 < cLine := by have := r.un; omega
theorem je_in {k : Nat} (hr : Room k X.A) (ha : JE z X a ta wa) (hb : JE z X b tb wb) (hm : behindInMarks .In b = false := by first | exact nomark _ | rfl) : JE z X (.Compare a [.In] [b] pos) (tOp (kR rInD) ta tb) (wOp fIn wa wb) := je_cmp (kR_ok (op_inD (units65 hr))) den_in ha hb hm
theorem je_notIn {k : Nat} (hr : Room k X.A) (ha : JE z X a ta wa) (hb : JE z X b tb wb) (hm : behindInMarks .NotIn b = false := by first | exact nomark _ | rfl) : JE z X (.Compare a [.NotIn] [b] pos) (tOp (kR rNotInD) ta tb) (wOp fNotIn wa wb) := je_cmp (kR_ok (op_notInD (units65 hr))) den_notIn ha hb hm
/-- -n -/
@[simp] def wNeg (w : WE) : WE := fun en P => w en fun d n => ∃ i, d = .int i ∧ P (.int (-i)) n
theorem je_neg (ha : JE z X a ta wa) : JE z X (.UnaryOp .USub a pos) (tUn (rU fun i => .int (-i)) ta) (wNeg wa) where
  pe := pe_un un_neg ha.pe
  de := fun B σ H F en s P Q hw k => by
    refine ha.de B σ H F en s _ _ hw fun v H1 F1 d n1 g1 s1 r1 q1 => ?_
    obtain ⟨i, rfl, q⟩ := q1
    cases r1
    exact ⟨i, rfl, k _ H1 F1 _ n1 g1 s1 (.int _) q⟩
/-- is None, is not None -/
def noneD : PyData → Bool
  | .none => true
  | _ => false
@[simp] theorem noneD_0  : noneD PyData.none = true := rfl
@[simp] theorem noneD_1 (b : Bool) : noneD (.bool b) = false := rfl
@[simp] theorem noneD_2 (i : Int) : noneD (.int i) = false := rfl
@[simp] theorem noneD_3 (s : Str) : noneD (.str s) = false := rfl
@[simp] theorem noneD_4 (xs : List PyData) : noneD (.list xs) = false := rfl
@[simp] theorem noneD_5 (xs : List PyData) : noneD (.tuple xs) = false := rfl
@[simp] theorem noneD_6 (es : List (PyData × PyData)) : noneD (.dict es) = false := rfl
@[simp] def wIsN (w : WE) : WE := fun en P => w en fun d n => P (.bool (noneD d)) n
@[simp] def wNotN (w : WE) : WE := fun en P => w en fun d n => P (.bool (!noneD d)) n
theorem Rp.isN {F : Hp} {v : V} {d : PyData} (r : Rp F v d) : decide (v = .non) = noneD d := by
  cases r <;> first | rfl | (exact decide_eq_false (fun q => nomatch q))
theorem je_isN {j} (ha : JE z X a ta wa) : JE z X (.Compare a [.Is] [.Constant .none j p] pos) (tIsN ta) (wIsN wa) where
  pe := pe_cmp (pc_isN ha.pe) rfl
  de := fun B σ H F en s P Q hw k => by
    refine ha.de B σ H F en s _ _ hw fun v H1 F1 d n1 g1 s1 r1 q1 => ?_
    show Q (.bl (decide (v = .non))) H1
    rw [r1.isN]
    exact k _ H1 F1 _ n1 g1 s1 (.bl _) q1
theorem je_notN {j} (ha : JE z X a ta wa) : JE z X (.Compare a [.IsNot] [.Constant .none j p] pos) (tNotN ta) (wNotN wa) where
  pe := pe_cmp (pc_notN ha.pe) rfl
  de := fun B σ H F en s P Q hw k => by
    refine ha.de B σ H F en s _ _ hw fun v H1 F1 d n1 g1 s1 r1 q1 => ?_
    show Q (.bl (!decide (v = .non))) H1
    rw [r1.isN]
    exact k _ H1 F1 _ n1 g1 s1 (.bl _) q1
end

/-! ### tests -/
section
variable {wa wb : WE} {tt tu : TT} {w u : WT}
@[simp] def wB (w : WE) : WT := fun en P => w en fun d n => ∃ b, d = .bool b ∧ P b n
theorem jt_b (h : JE z X e t wa) (he : ∀ whole : Sem Value, PySem.isTrue e X.env whole = (do let v ← whole; standAt e.pos; holding [v] (truthy v)) := by intro _; rfl) : JT z X e (tB t) (wB wa) where
  pt := pt_val h.pe (by intro w; exact he w)
  de := fun B σ H F en s P Q hw k => by
    refine h.de B σ H F en s _ _ hw fun v H1 F1 d n1 g1 s1 r1 q1 => ?_
    obtain ⟨b, rfl, q⟩ := q1
    cases r1
    exact ⟨b, rfl, k b H1 F1 n1 g1 s1 q⟩
@[simp] def wAnd (w u : WT) : WT := fun en P => w en fun b n => if b = true then u ⟨en.s, n⟩ P else P false n
@[simp] def wOr (w u : WT) : WT := fun en P => w en fun b n => if b = true then P true n else u ⟨en.s, n⟩ P
@[simp] def wNot (w : WT) : WT := fun en P => w en fun b n => P (!b) n
theorem den_and (h : DenT z tt w) (h' : DenT z tu u) : DenT z (tAnd tt tu) (wAnd w u) := fun B σ H F en s P Q hw k => by
  refine h B σ H F en s _ _ hw fun b H1 F1 n1 g1 s1 q1 => ?_
  cases b with
  | true => exact iteT (h' B σ H1 F1 _ (s.grow g1 s1) _ _ (by simpa using q1) fun c H2 F2 n2 g2 s2 q2 => k c H2 F2 n2 (g1.trans g2) s2 q2)
  | false => exact iteF (k false H1 F1 n1 g1 s1 (by simpa using q1))
theorem den_or (h : DenT z tt w) (h' : DenT z tu u) : DenT z (tOr tt tu) (wOr w u) := fun B σ H F en s P Q hw k => by
  refine h B σ H F en s _ _ hw fun b H1 F1 n1 g1 s1 q1 => ?_
  cases b with
  | false => exact iteF (h' B σ H1 F1 _ (s.grow g1 s1) _ _ (by simpa using q1) fun c H2 F2 n2 g2 s2 q2 => k c H2 F2 n2 (g1.trans g2) s2 q2)
  | true => exact iteT (k true H1 F1 n1 g1 s1 (by simpa using q1))
theorem den_not (h : DenT z tt w) : DenT z (tNot tt) (wNot w) := fun B σ H F en s P Q hw k =>
  h B σ H F en s _ _ hw fun b H1 F1 n1 g1 s1 q1 => k (!b) H1 F1 n1 g1 s1 q1
theorem jt_not (h : JT z X e tt w) : JT z X (.UnaryOp .Not e pos) (tNot tt) (wNot w) := ⟨pt_not h.pt, den_not h.de⟩
theorem jw_and {es : List Expr} (h : JT z X a tt w) (h' : JW z X (.BoolOp .And (b :: es) pos) tu u) : JW z X (.BoolOp .And (a :: b :: es) pos) (tAnd tt tu) (wAnd w u) := ⟨pw_and h.pt h'.pw, den_and h.de h'.de⟩
theorem jw_or {es : List Expr} (h : JT z X a tt w) (h' : JW z X (.BoolOp .Or (b :: es) pos) tu u) : JW z X (.BoolOp .Or (a :: b :: es) pos) (tOr tt tu) (wOr w u) := ⟨pw_or h.pt h'.pw, den_or h.de h'.de⟩
theorem jw_and1 (h : JT z X a tt w) : JW z X (.BoolOp .And [a] pos) tt w := ⟨pw_and1 h.pt, h.de⟩
theorem jw_or1 (h : JT z X a tt w) : JW z X (.BoolOp .Or [a] pos) tt w := ⟨pw_or1 h.pt, h.de⟩
theorem JW.jt (h : JW z X e tt w) : JT z X e tt w := ⟨h.pw.pt, h.de⟩
/-- values by and, or, not; all but the last of an and, or are True or False -/
@[simp] def wAndV (wa wb : WE) : WE := fun en P => wa en fun d n => ∃ c, d = .bool c ∧ if c = true then wb ⟨en.s, n⟩ P else P (.bool false) n
@[simp] def wOrV (wa wb : WE) : WE := fun en P => wa en fun d n => ∃ c, d = .bool c ∧ if c = true then P (.bool true) n else wb ⟨en.s, n⟩ P
@[simp] def wNotV (wa : WE) : WE := fun en P => wa en fun d n => ∃ c, d = .bool c ∧ P (.bool (!c)) n
theorem je_and {es : List Expr} (h : JE z X a ta wa) (h' : JE z X (.BoolOp .And (b :: es) pos) tb wb) : JE z X (.BoolOp .And (a :: b :: es) pos) (tAndV ta tb) (wAndV wa wb) where
  pe := pe_and h.pe h'.pe
  de := fun B σ H F en s P Q hw k => by
    refine h.de B σ H F en s _ _ hw fun v H1 F1 d n1 g1 s1 r1 q1 => ?_
    obtain ⟨c, rfl, q⟩ := q1
    cases r1
    refine ⟨c, rfl, ?_⟩
    cases c with
    | true => exact iteT (h'.de B σ H1 F1 _ (s.grow g1 s1) _ _ (by simpa using q) fun c H2 F2 d n2 g2 s2 r2 q2 => k c H2 F2 d n2 (g1.trans g2) s2 r2 q2)
    | false => exact iteF (k _ H1 F1 _ n1 g1 s1 (.bl _) (by simpa using q))
theorem je_or {es : List Expr} (h : JE z X a ta wa) (h' : JE z X (.BoolOp .Or (b :: es) pos) tb wb) : JE z X (.BoolOp .Or (a :: b :: es) pos) (tOrV ta tb) (wOrV wa wb) where
  pe := pe_or h.pe h'.pe
  de := fun B σ H F en s P Q hw k => by
    refine h.de B σ H F en s _ _ hw fun v H1 F1 d n1 g1 s1 r1 q1 => ?_
    obtain ⟨c, rfl, q⟩ := q1
    cases r1
    refine ⟨c, rfl, ?_⟩
    cases c with
    | false => exact iteF (h'.de B σ H1 F1 _ (s.grow g1 s1) _ _ (by simpa using q) fun c H2 F2 d n2 g2 s2 r2 q2 => k c H2 F2 d n2 (g1.trans g2) s2 r2 q2)
    | true => exact iteT (k _ H1 F1 _ n1 g1 s1 (.bl _) (by simpa using q))
theorem je_one {op : BoolOp} (h : JE z X a ta wa) : JE z X (.BoolOp op [a] pos) ta wa := ⟨pe_one h.pe, h.de⟩
theorem je_not (h : JE z X a ta wa) : JE z X (.UnaryOp .Not a pos) (tNotV ta) (wNotV wa) where
  pe := pe_not h.pe
  de := fun B σ H F en s P Q hw k => by
    refine h.de B σ H F en s _ _ hw fun v H1 F1 d n1 g1 s1 r1 q1 => ?_
    obtain ⟨c, rfl, q⟩ := q1
    cases r1
    exact ⟨c, rfl, k _ H1 F1 _ n1 g1 s1 (.bl _) q⟩
@[simp] def wIf (w : WT) (wa wb : WE) : WE := fun en P => w en fun c n => if c = true then wa ⟨en.s, n⟩ P else wb ⟨en.s, n⟩ P
theorem je_if {c : Expr} (h : JT z X c tt w) (ha : JE z X a ta wa) (hb : JE z X b tb wb) : JE z X (.IfExp c a b pos) (tIf tt ta tb) (wIf w wa wb) where
  pe := pe_ifExp h.pt ha.pe hb.pe
  de := fun B σ H F en s P Q hw k => by
    refine h.de B σ H F en s _ _ hw fun c H1 F1 n1 g1 s1 q1 => ?_
    cases c with
    | true => exact iteT (ha.de B σ H1 F1 _ (s.grow g1 s1) _ _ (by simpa using q1) fun c H2 F2 d n2 g2 s2 r2 q2 => k c H2 F2 d n2 (g1.trans g2) s2 r2 q2)
    | false => exact iteF (hb.de B σ H1 F1 _ (s.grow g1 s1) _ _ (by simpa using q1) fun c H2 F2 d n2 g2 s2 r2 q2 => k c H2 F2 d n2 (g1.trans g2) s2 r2 q2)
end

/-! ### displays, fresh lists -/
theorem JL.je {w : WA} (h : JL z X e t w) : JE z X e t (fun en P => w en fun ds n => P (.list ds) n) where
  pe := h.pe
  de := fun B σ H F en s P Q hw k => by
    refine h.de B σ H F en s _ _ hw fun l xs H1 F1 ds n1 g1 s1 hl hf hx r1 q1 => ?_
    exact k _ H1 _ _ n1 (g1.freeze hl hx hf) s1 (.lst upd_same (r1.mono (ex_upd hf))) q1
@[simp] def wLst (w : WA) : WA := fun en P => w en fun ds n => ds.length ≤ 100000 ∧ P ds n
@[simp] def wTup (w : WA) : WE := fun en P => w en fun ds n => ds.length ≤ 100000 ∧ P (.tuple ds) n
@[simp] def wAsL (w : WA) : WE := fun en P => w en fun ds n => P (.list ds) n
theorem JL.je' {w : WA} (h : JL z X e t w) : JE z X e t (wAsL w) := h.je
theorem zv_not {n : Nat} {H : Hp} {l : Addr} (s : Stm z n H) (h : H l = none) : ¬ Zv z l := fun q => s.there q h
theorem jl_lst {es : List Expr} {ta : TA} {w : WA} (h : JA z X es ta w) : JL z X (.List es pos) (tLst ta) (wLst w) where
  pe := pe_lst h.pa
  de := fun B σ H F en s P Q hw k => by
    refine h.de B σ H F en s _ _ hw fun vs H1 F1 ds n1 g1 s1 r1 q1 => ?_
    refine ⟨Evl.sz_of (by rw [r1.length]; exact q1.1), fun l hl => ?_⟩
    have hf : F1 l = none := by
      cases e : F1 l with
      | none => rfl
      | some o => rw [g1.sub l o e] at hl; cases hl
    exact k l vs _ F1 ds n1 (g1.trans (Grow.fresh g1.sub hl)) (s1.upd (zv_not s1 hl)) (g1.dom l hl) hf upd_same r1 q1.2
theorem je_tup {es : List Expr} {ta : TA} {w : WA} {x1} (h : JA z X es ta w) : JE z X (.Tuple es x1 pos) (tTup ta) (wTup w) where
  pe := pe_tup h.pa
  de := fun B σ H F en s P Q hw k => by
    refine h.de B σ H F en s _ _ hw fun vs H1 F1 ds n1 g1 s1 r1 q1 => ?_
    refine ⟨Evl.sz_of (by rw [r1.length]; exact q1.1), fun l hl => ?_⟩
    have hf : F1 l = none := by
      cases e : F1 l with
      | none => rfl
      | some o => rw [g1.sub l o e] at hl; cases hl
    exact k _ _ _ _ n1 (g1.trans (Grow.laid g1.sub hl)) (s1.upd (zv_not s1 hl)) (.tup upd_same (r1.mono (ex_upd hf))) q1.2
/-- {} -/
theorem je_dict0 : JE z X (.Dict [] [] pos) tDNewK (wC (.dict [])) where
  pe := pe_dnewK
  de := fun B σ H F en s P Q hw k => by
    intro l hl
    have hf : F l = none := by
      cases e : F l with
      | none => rfl
      | some o => rw [s.sub l o e] at hl; cases hl
    exact k _ _ _ _ en.n (Grow.laid s.sub hl) (s.stm.upd (zv_not s.stm hl)) (.dK upd_same .nil) hw

/-! ### borrowing an own list for a test -/
@[simp] def wBor (i : Nat) (w : WT) : WT := fun en P => ∃ ds, en.s[i]? = some (.own ds) ∧ w ⟨en.s.set i (.val (.list ds)), en.n⟩ P
theorem Sit.borrow {B : Hp} {σ : L2.St} {H F : Hp} {en : En} {i : Nat} {ds : List PyData} (s : Sit z B σ H F en) (h : en.s[i]? = some (.own ds)) :
    ∃ l xs, σ[i]? = some (some (.ref l)) ∧ F l = none ∧ ¬ Zv z l ∧ H l = some (.lst xs) ∧ RpA F xs ds ∧ Sit z B σ H (L2.upd F l (.lst xs)) ⟨en.s.set i (.val (.list ds)), en.n⟩ := by
  obtain ⟨o, h1, l, xs, rfl, h2, h3, h4, h5, h6⟩ := s.slot i _ h
  refine ⟨l, xs, h1, h2, h3, h4, h5, ?_⟩
  exact s.frz h rfl h1 h2 h3 h4 fun F' e q => .lst q (h5.mono e)
/-- what has grown over a borrowed list has grown over what stood ahead, nothing frozen -/
theorem Grow.unborrow {F H F' H' : Hp} {l : Addr} {xs : List V} (hF : F l = none) (e : Ex F H) (g : Grow z (L2.upd F l (.lst xs)) H F' H') : Grow z F H F H' where
  keep := g.keep
  dom := g.dom
  ext := Evl.Ex.refl F
  sub := fun b u h => g.sub b u (g.ext b u (by rw [upd_ne (ne_of_none h hF)]; exact h))
  new := fun b _ h => .inl h
theorem jt_bor {tt : TT} {w : WT} (i : Nat) (h : JT z X e tt w) : JT z X e tt (wBor i w) where
  pt := h.pt
  de := fun B σ H F en s P Q hw k => by
    obtain ⟨ds, h1, h2⟩ := hw
    obtain ⟨l, xs, e1, e2, e3, e4, e5, s'⟩ := s.borrow h1
    exact h.de B σ H _ _ s' _ _ h2 fun b H1 F1 n1 g1 s1 q1 => k b H1 F n1 (g1.unborrow e2 s.sub) s1 q1
/-- the same for a value that is no object -/
def atomD : PyData → Bool
  | .none => true
  | .bool _ => true
  | .int _ => true
  | .str _ => true
  | _ => false
@[simp] theorem atomD_0  : atomD PyData.none = true := rfl
@[simp] theorem atomD_1 (b : Bool) : atomD (.bool b) = true := rfl
@[simp] theorem atomD_2 (i : Int) : atomD (.int i) = true := rfl
@[simp] theorem atomD_3 (s : Str) : atomD (.str s) = true := rfl
@[simp] theorem atomD_4 (xs : List PyData) : atomD (.list xs) = false := rfl
@[simp] theorem atomD_5 (xs : List PyData) : atomD (.tuple xs) = false := rfl
@[simp] theorem atomD_6 (es : List (PyData × PyData)) : atomD (.dict es) = false := rfl
theorem Rp.atom {F F' : Hp} {v : V} {d : PyData} (r : Rp F v d) (h : atomD d = true) : Rp F' v d := by
  cases r <;> first | exact .non | exact .bl _ | exact .int _ | exact .str _ | (simp [atomD] at h)
@[simp] def wBorE (i : Nat) (w : WE) : WE := fun en P => ∃ ds, en.s[i]? = some (.own ds) ∧ w ⟨en.s.set i (.val (.list ds)), en.n⟩ fun d n => atomD d = true ∧ P d n
theorem je_bor {w : WE} (i : Nat) (h : JE z X e t w) : JE z X e t (wBorE i w) where
  pe := h.pe
  de := fun B σ H F en s P Q hw k => by
    obtain ⟨ds, h1, h2⟩ := hw
    obtain ⟨l, xs, e1, e2, e3, e4, e5, s'⟩ := s.borrow h1
    exact h.de B σ H _ _ s' _ _ h2 fun v H1 F1 d n1 g1 s1 r1 q1 => k v H1 F d n1 (g1.unborrow e2 s.sub) s1 (r1.atom q1.1) q1.2
end
end DD
/-! The Deep layer, 3: built-ins, subscripts, slices, comprehensions, calls of defs. -/
namespace DD
open PySem PySem.Spec PyProof.Rows L2
open Evl (Ex)

/-! ### readings for whatever is written: K is taken out -/
abbrev Fg := PySem.W.Frag
def kC (r : Fg → List V → Hp → VK → Prop) : List V → Hp → VK → Prop := fun vs H Q => ∀ K, r K vs H Q
theorem kC_ok {X : Cx} {f : Value} {r : Fg → List V → Hp → VK → Prop} (h : CallR X f (r X.K)) : CallR X f (kC r) := fun pins s σ H xs us Q I rs q => h pins s σ H xs us Q I rs (q X.K)
/-! ### kinds -/
def tyD : PyData → String
  | .none => "NoneType"
  | .bool _ => "bool"
  | .int _ => "int"
  | .str _ => "str"
  | .list _ => "list"
  | .tuple _ => "tuple"
  | .dict _ => "dict"
theorem Rp.ty {K : PySem.W.Frag} {F H : Hp} (e : Ex F H) {v : V} {d : PyData} (r : Rp F v d) : TyX K H v (.type (tyD d)) := by
  cases r with
  | non => exact .base .non
  | bl b => exact .base (.bl b)
  | int i => exact .base (.int i)
  | str x => exact .base (.str x)
  | lst h _ => exact .base (.lst (e _ _ h))
  | tup h _ => exact .base (.tup (e _ _ h))
  | dK h _ => exact .base (.dK (e _ _ h))
  | dT h _ _ => exact .base (.dT (e _ _ h))
def isSeq : PyData → Bool
  | .list _ => true
  | .tuple _ => true
  | _ => false
def isLst : PyData → Bool
  | .list _ => true
  | _ => false
def isTup : PyData → Bool
  | .tuple _ => true
  | _ => false
def isDic : PyData → Bool
  | .dict _ => true
  | _ => false
def isObjD : PyData → Bool
  | .list _ => true
  | .tuple _ => true
  | .dict _ => true
  | _ => false
def isBoo : PyData → Bool
  | .bool _ => true
  | _ => false
def isInt : PyData → Bool
  | .bool _ => true
  | .int _ => true
  | _ => false
def isStr : PyData → Bool
  | .str _ => true
  | _ => false

@[simp] theorem isSeq_0  : isSeq PyData.none = false := rfl
@[simp] theorem isSeq_1 (b : Bool) : isSeq (.bool b) = false := rfl
@[simp] theorem isSeq_2 (i : Int) : isSeq (.int i) = false := rfl
@[simp] theorem isSeq_3 (s : Str) : isSeq (.str s) = false := rfl
@[simp] theorem isSeq_4 (xs : List PyData) : isSeq (.list xs) = true := rfl
@[simp] theorem isSeq_5 (xs : List PyData) : isSeq (.tuple xs) = true := rfl
@[simp] theorem isSeq_6 (es : List (PyData × PyData)) : isSeq (.dict es) = false := rfl
@[simp] theorem isLst_0  : isLst PyData.none = false := rfl
@[simp] theorem isLst_1 (b : Bool) : isLst (.bool b) = false := rfl
@[simp] theorem isLst_2 (i : Int) : isLst (.int i) = false := rfl
@[simp] theorem isLst_3 (s : Str) : isLst (.str s) = false := rfl
@[simp] theorem isLst_4 (xs : List PyData) : isLst (.list xs) = true := rfl
@[simp] theorem isLst_5 (xs : List PyData) : isLst (.tuple xs) = false := rfl
@[simp] theorem isLst_6 (es : List (PyData × PyData)) : isLst (.dict es) = false := rfl
@[simp] theorem isTup_0  : isTup PyData.none = false := rfl
@[simp] theorem isTup_1 (b : Bool) : isTup (.bool b) = false := rfl
@[simp] theorem isTup_2 (i : Int) : isTup (.int i) = false := rfl
@[simp] theorem isTup_3 (s : Str) : isTup (.str s) = false := rfl
@[simp] theorem isTup_4 (xs : List PyData) : isTup (.list xs) = false := rfl
@[simp] theorem isTup_5 (xs : List PyData) : isTup (.tuple xs) = true := rfl
@[simp] theorem isTup_6 (es : List (PyData × PyData)) : isTup (.dict es) = false := rfl
@[simp] theorem isDic_0  : isDic PyData.none = false := rfl
@[simp] theorem isDic_1 (b : Bool) : isDic (.bool b) = false := rfl
@[simp] theorem isDic_2 (i : Int) : isDic (.int i) = false := rfl
@[simp] theorem isDic_3 (s : Str) : isDic (.str s) = false := rfl
@[simp] theorem isDic_4 (xs : List PyData) : isDic (.list xs) = false := rfl
@[simp] theorem isDic_5 (xs : List PyData) : isDic (.tuple xs) = false := rfl
@[simp] theorem isDic_6 (es : List (PyData × PyData)) : isDic (.dict es) = true := rfl
@[simp] theorem isObjD_0  : isObjD PyData.none = false := rfl
@[simp] theorem isObjD_1 (b : Bool) : isObjD (.bool b) = false := rfl
@[simp] theorem isObjD_2 (i : Int) : isObjD (.int i) = false := rfl
@[simp] theorem isObjD_3 (s : Str) : isObjD (.str s) = false := rfl
@[simp] theorem isObjD_4 (xs : List PyData) : isObjD (.list xs) = true := rfl
@[simp] theorem isObjD_5 (xs : List PyData) : isObjD (.tuple xs) = true := rfl
@[simp] theorem isObjD_6 (es : List (PyData × PyData)) : isObjD (.dict es) = true := rfl
@[simp] theorem isBoo_0  : isBoo PyData.none = false := rfl
@[simp] theorem isBoo_1 (b : Bool) : isBoo (.bool b) = true := rfl
@[simp] theorem isBoo_2 (i : Int) : isBoo (.int i) = false := rfl
@[simp] theorem isBoo_3 (s : Str) : isBoo (.str s) = false := rfl
@[simp] theorem isBoo_4 (xs : List PyData) : isBoo (.list xs) = false := rfl
@[simp] theorem isBoo_5 (xs : List PyData) : isBoo (.tuple xs) = false := rfl
@[simp] theorem isBoo_6 (es : List (PyData × PyData)) : isBoo (.dict es) = false := rfl
@[simp] theorem isInt_0  : isInt PyData.none = false := rfl
@[simp] theorem isInt_1 (b : Bool) : isInt (.bool b) = true := rfl
@[simp] theorem isInt_2 (i : Int) : isInt (.int i) = true := rfl
@[simp] theorem isInt_3 (s : Str) : isInt (.str s) = false := rfl
@[simp] theorem isInt_4 (xs : List PyData) : isInt (.list xs) = false := rfl
@[simp] theorem isInt_5 (xs : List PyData) : isInt (.tuple xs) = false := rfl
@[simp] theorem isInt_6 (es : List (PyData × PyData)) : isInt (.dict es) = false := rfl
@[simp] theorem isStr_0  : isStr PyData.none = false := rfl
@[simp] theorem isStr_1 (b : Bool) : isStr (.bool b) = false := rfl
@[simp] theorem isStr_2 (i : Int) : isStr (.int i) = false := rfl
@[simp] theorem isStr_3 (s : Str) : isStr (.str s) = true := rfl
@[simp] theorem isStr_4 (xs : List PyData) : isStr (.list xs) = false := rfl
@[simp] theorem isStr_5 (xs : List PyData) : isStr (.tuple xs) = false := rfl
@[simp] theorem isStr_6 (es : List (PyData × PyData)) : isStr (.dict es) = false := rfl
section
variable {z : Zn} {X : Cx} {e a b : Expr} {es : List Expr} {t ta tb : TE} {pos p p2 p3 p4 tpos : Pos} {wa wb : WE}
theorem pair_cls : ∀ Ts : List String, Paired ClsV (Ts.map V.ty) (Ts.map Value.type)
  | [] => .nil
  | T :: Ts => .cons (.ty T) (pair_cls Ts)
/-- isinstance(e, T) -/
@[simp] def wFun (g : PyData → PyData) (w : WE) : WE := fun en P => w en fun d n => P (g d) n
theorem je_isi {T : Str} {Tn : String} {g : PyData → Bool} (hg : Gl X "isinstance") (hm : X.mg "isinstance" = none) (hgT : Gl X T) (hmT : X.mg T = none) (hbT : bootBuiltins T = some (.type Tn)) (hk : ∀ d, kitB (tyD d) Tn = some (g d))
    (h : JE z X e t wa) (hn : T ≠ "__name__" := by decide) (hd : (T == ("__debug__" : Str)) = false := by decide)
    (s2 : starEach [Expr.Name T p2] X.env = (false, eval (Expr.Name T p2) X.env) :: starEach [] X.env := by rfl)
    (s1 : starEach [e, Expr.Name T p2] X.env = (false, eval e X.env) :: starEach [Expr.Name T p2] X.env := by rfl) (hpl : (backTo pos (starEach [Expr.Name T p2] X.env)).any (·.1) = false := by rfl) :
    JE z X (.Call (.Name "isinstance" p) [e, .Name T p2] [] pos) (tCB (kC rIsi) (tCons t (tCons (tC (.ty Tn)) tNil))) (wFun (fun d => .bool (g d)) wa) where
  pe := pe_callB (kC_ok call_isi) hg hm (by decide +kernel) (pa_cons h.pe (pa_cons (pe_bltn hgT hmT hbT (show RelV (.ty Tn) _ from rfl) hn hd) pa_nil s2) s1) (by decide) (by decide) s1 hpl
  de := fun B σ H F en s P Q hw k => by
    refine h.de B σ H F en s _ _ hw fun v H1 F1 d n1 g1 s1 r1 q1 => ?_
    exact fun K => ⟨v, .ty Tn, .type (tyD d), .type Tn, g d, rfl, .ty Tn, r1.ty g1.sub, kit_ty (hk d), k _ H1 F1 _ n1 g1 s1 (.bl _) q1⟩
theorem kit_int : ∀ d, kitB (tyD d) "int" = some (isInt d) := by intro d; cases d <;> (simp only [tyD, isInt]; decide +kernel)
theorem kit_bool : ∀ d, kitB (tyD d) "bool" = some (isBoo d) := by intro d; cases d <;> (simp only [tyD, isBoo]; decide +kernel)
theorem kit_str : ∀ d, kitB (tyD d) "str" = some (isStr d) := by intro d; cases d <;> (simp only [tyD, isStr]; decide +kernel)
theorem kit_list : ∀ d, kitB (tyD d) "list" = some (isLst d) := by intro d; cases d <;> (simp only [tyD, isLst]; decide +kernel)
theorem kit_tuple : ∀ d, kitB (tyD d) "tuple" = some (isTup d) := by intro d; cases d <;> (simp only [tyD, isTup]; decide +kernel)
theorem kit_dict : ∀ d, kitB (tyD d) "dict" = some (isDic d) := by intro d; cases d <;> (simp only [tyD, isDic]; decide +kernel)
def kitL (a : String) : List String → Option Bool
  | [] => some false
  | c :: cs => match kitB a c with
    | some true => some true
    | some false => kitL a cs
    | none => none
theorem kitL_ok {K : PySem.W.Frag} {a : String} : ∀ {cs : List String} {b : Bool}, kitL a cs = some b → PySem.W.kitAny K (.type a) (cs.map Value.type) = some b
  | [], b, h => by
    cases h
    exact kitAny_nil
  | c :: cs, b, h => by
    unfold kitL at h
    cases e : kitB a c with
    | none => rw [e] at h; cases h
    | some x =>
      rw [e] at h
      cases x with
      | true => exact kitAny_cons (kit_ty e) (fun q => by cases q) (fun _ => by cases h; rfl)
      | false => exact kitAny_cons (kit_ty e) (fun _ => kitL_ok h) (fun q => by cases q)
theorem kit_LT : ∀ (K : PySem.W.Frag) (d : PyData), PySem.W.kitAny K (.type (tyD d)) (["list", "tuple"].map Value.type) = some (isSeq d) := by intro K d; cases d <;> (simp only [tyD, isSeq]; exact kitL_ok (by decide +kernel))
theorem kit_LTD : ∀ (K : PySem.W.Frag) (d : PyData), PySem.W.kitAny K (.type (tyD d)) (["list", "tuple", "dict"].map Value.type) = some (isObjD d) := by intro K d; cases d <;> (simp only [tyD, isObjD]; exact kitL_ok (by decide +kernel))
/-- isinstance(e, (T1, T2, ..)): the classes by their names -/
theorem je_isiT {ts : List Expr} {k1 : Nat} {Ts : List String} {tr : TA} {g : PyData → Bool} (hg : Gl X "isinstance") (hm : X.mg "isinstance" = none) (hts : PA X ts tr)
    (htr : ∀ (σ : L2.St) (H : Hp) (Q : List V → Hp → Prop), Q (Ts.map V.ty) H → tr σ H Q) (hk : ∀ (K : PySem.W.Frag) (d : PyData), PySem.W.kitAny K (.type (tyD d)) (Ts.map Value.type) = some (g d)) (hl : Ts.length ≤ 100)
    (h : JE z X e t wa) (s2 : starEach [Expr.Tuple ts k1 tpos] X.env = (false, eval (Expr.Tuple ts k1 tpos) X.env) :: starEach [] X.env := by rfl)
    (s1 : starEach [e, Expr.Tuple ts k1 tpos] X.env = (false, eval e X.env) :: starEach [Expr.Tuple ts k1 tpos] X.env := by rfl) (hpl : (backTo pos (starEach [Expr.Tuple ts k1 tpos] X.env)).any (·.1) = false := by rfl) :
    JE z X (.Call (.Name "isinstance" p) [e, .Tuple ts k1 tpos] [] pos) (tCB (kC rIsiT) (tCons t (tCons (tTup tr) tNil))) (wFun (fun d => .bool (g d)) wa) where
  pe := pe_callB (kC_ok call_isiT) hg hm (by decide +kernel) (pa_cons h.pe (pa_cons (pe_tup hts) pa_nil s2) s1) (by decide) (by decide) s1 hpl
  de := fun B σ H F en s P Q hw k => by
    refine h.de B σ H F en s _ _ hw fun v H1 F1 d n1 g1 s1 r1 q1 => ?_
    refine htr σ H1 _ ⟨Evl.sz_of (by rw [List.length_map]; omega), fun l hl => ?_⟩
    have g2 : Grow z F1 H1 F1 (upd H1 l (.tup (Ts.map V.ty))) := Grow.fresh g1.sub hl
    have cl := pair_cls Ts
    exact fun K => ⟨v, l, Ts.map V.ty, .type (tyD d), Ts.map Value.type, g d, rfl, upd_same, cl, (r1.mono g2.ext).ty g2.sub, hk K d, k _ _ F1 _ n1 (g1.trans g2) (s1.upd (zv_not s1 hl)) (.bl _) q1⟩

/-! ### calls of built-ins with one argument -/
def DenB (z : Zn) (r : List V → Hp → VK → Prop) (f : PyData → (PyData → Prop) → Prop) : Prop := ∀ (H F : Hp) (x : V) (d : PyData) (P : PyData → Prop) (Q : VK), Ex F H → Rp F x d → f d P →
  (∀ v H' F' d', Grow none F H F' H' → Rp F' v d' → P d' → Q v H') → r [x] H Q
@[simp] def wB1 (f : PyData → (PyData → Prop) → Prop) (w : WE) : WE := fun en P => w en fun d n => f d fun r => P r n
theorem den_b1 {r : List V → Hp → VK → Prop} {f : PyData → (PyData → Prop) → Prop} (hr : DenB z r f) (h : Den z t wa) : Den z (tCB r (tCons t tNil)) (wB1 f wa) := fun B σ H F en s P Q hw k => by
  refine h B σ H F en s _ _ hw fun v H1 F1 d n1 g1 s1 r1 q1 => ?_
  exact hr H1 F1 v d _ _ g1.sub r1 q1 fun y H3 F3 d' g3 r3 q3 => k y H3 F3 d' n1 (g1.trans g3.weak) (s1.ex g3.ex) r3 q3
theorem je_b1 {x : Str} {id : String} {r : List V → Hp → VK → Prop} {f : PyData → (PyData → Prop) → Prop} (hc : CallR X (.builtin id) r) (hr : DenB z r f) (hg : Gl X x) (hm : X.mg x = none) (hv : bootBuiltins x = some (.builtin id)) (h : JE z X e t wa)
    (hn : x ≠ "__name__" := by decide) (hdb : (x == ("__debug__" : Str)) = false := by decide) (he : starEach [e] X.env = (false, eval e X.env) :: starEach [] X.env := by rfl) (hpl : (backTo pos (starEach [] X.env)).any (·.1) = false := by rfl) :
    JE z X (.Call (.Name x p) [e] [] pos) (tCB r (tCons t tNil)) (wB1 f wa) := ⟨pe_callB hc hg hm hv (pa_cons h.pe pa_nil he) hn hdb he hpl, den_b1 hr h.de⟩
theorem je_t1 {x : Str} {id : String} {r : List V → Hp → VK → Prop} {f : PyData → (PyData → Prop) → Prop} (hc : CallR X (.type id) r) (hr : DenB z r f) (hg : Gl X x) (hm : X.mg x = none) (hv : bootBuiltins x = some (.type id)) (h : JE z X e t wa)
    (hn : x ≠ "__name__" := by decide) (hdb : (x == ("__debug__" : Str)) = false := by decide) (he : starEach [e] X.env = (false, eval e X.env) :: starEach [] X.env := by rfl) (hpl : (backTo pos (starEach [] X.env)).any (·.1) = false := by rfl) :
    JE z X (.Call (.Name x p) [e] [] pos) (tCB r (tCons t tNil)) (wB1 f wa) := ⟨pe_callTy hc hg hm hv (pa_cons h.pe pa_nil he) hn hdb he hpl, den_b1 hr h.de⟩
/-- the items of a list or a tuple -/
def seqD : PyData → Option (List PyData)
  | .list ds => some ds
  | .tuple ds => some ds
  | _ => none
@[simp] theorem seqD_0  : seqD PyData.none = none := rfl
@[simp] theorem seqD_1 (b : Bool) : seqD (.bool b) = none := rfl
@[simp] theorem seqD_2 (i : Int) : seqD (.int i) = none := rfl
@[simp] theorem seqD_3 (s : Str) : seqD (.str s) = none := rfl
@[simp] theorem seqD_4 (xs : List PyData) : seqD (.list xs) = some xs := rfl
@[simp] theorem seqD_5 (xs : List PyData) : seqD (.tuple xs) = some xs := rfl
@[simp] theorem seqD_6 (es : List (PyData × PyData)) : seqD (.dict es) = none := rfl
theorem Rp.seq {K : PySem.W.Frag} {F H : Hp} (e : Ex F H) {v : V} {d : PyData} {ds : List PyData} (r : Rp F v d) (h : seqD d = some ds) : ∃ a xs, v = .ref a ∧ (SqL K H a xs ∨ SqT K H a xs) ∧ RpA F xs ds := by
  cases r with
  | lst q r => cases h; exact ⟨_, _, rfl, .inl (SqL.of (e _ _ q)), r⟩
  | tup q r => cases h; exact ⟨_, _, rfl, .inr (SqT.of (e _ _ q)), r⟩
  | non => cases h
  | bl _ => cases h
  | int _ => cases h
  | str _ => cases h
  | dK _ _ => cases h
  | dT _ _ _ => cases h
theorem Rp.seqA {F H : Hp} (e : Ex F H) {v : V} {d : PyData} {ds : List PyData} (r : Rp F v d) (h : seqD d = some ds) : ∃ a xs, v = .ref a ∧ (∀ K : PySem.W.Frag, SqL K H a xs ∨ SqT K H a xs) ∧ RpA F xs ds := by
  cases r with
  | lst q r => cases h; exact ⟨_, _, rfl, fun K => .inl (SqL.of (e _ _ q)), r⟩
  | tup q r => cases h; exact ⟨_, _, rfl, fun K => .inr (SqT.of (e _ _ q)), r⟩
  | non => cases h
  | bl _ => cases h
  | int _ => cases h
  | str _ => cases h
  | dK _ _ => cases h
  | dT _ _ _ => cases h
@[simp] def fLen : PyData → (PyData → Prop) → Prop := fun d P => ∃ ds, seqD d = some ds ∧ P (.int ds.length)
def rLen (K : PySem.W.Frag) : List V → Hp → VK → Prop := fun xs H Q => ∃ p ys, xs = [.ref p] ∧ (SqL K H p ys ∨ SqT K H p ys) ∧ Q (.int ys.length) H
theorem den_len : DenB z (kC rLen) fLen := by
  intro H F x d P Q s r h k K
  obtain ⟨ds, h1, q⟩ := h
  obtain ⟨a, xs, rfl, h2, h3⟩ := r.seq s h1
  refine ⟨a, xs, rfl, h2, ?_⟩
  rw [h3.length]
  exact k _ H F _ (Grow.stay s) (.int _) q
theorem je_len (hg : Gl X "len") (hm : X.mg "len" = none) (h : JE z X e t wa) (he : starEach [e] X.env = (false, eval e X.env) :: starEach [] X.env := by rfl) (hpl : (backTo pos (starEach [] X.env)).any (·.1) = false := by rfl) :
    JE z X (.Call (.Name "len" p) [e] [] pos) (tCB (kC rLen) (tCons t tNil)) (wB1 fLen wa) :=
  je_b1 (p := p) (pos := pos) (kC_ok (r := rLen) call_len_seq) den_len hg hm PySem.boot_len h (by decide) (by decide) he hpl
@[simp] def fTup : PyData → (PyData → Prop) → Prop := fun d P => ∃ ds, seqD d = some ds ∧ P (.tuple ds)
def rTupOf (K : PySem.W.Frag) : List V → Hp → VK → Prop := fun xs H Q => ∃ p ys, xs = [.ref p] ∧ ((SqL K H p ys ∧ ∀ l, H l = none → Q (.ref l) (upd H l (.tup ys))) ∨ (SqT K H p ys ∧ Q (.ref p) H))
theorem den_tupOf : DenB z (kC rTupOf) fTup := by
  intro H F x d P Q s r h k K
  obtain ⟨ds, h1, q⟩ := h
  cases r with
  | lst e r =>
    cases h1
    refine ⟨_, _, rfl, .inl ⟨SqL.of (s _ _ e), fun l hl => ?_⟩⟩
    have hf : F l = none := by
      cases e : F l with
      | none => rfl
      | some o => rw [s l o e] at hl; cases hl
    exact k _ _ _ _ (Grow.laid s hl) (.tup upd_same (r.mono (ex_upd hf))) q
  | tup e r =>
    cases h1
    exact ⟨_, _, rfl, .inr ⟨SqT.of (s _ _ e), k _ H F _ (Grow.stay s) (.tup e r) q⟩⟩
  | non => cases h1
  | bl _ => cases h1
  | int _ => cases h1
  | str _ => cases h1
  | dK _ _ => cases h1
  | dT _ _ _ => cases h1
theorem je_tupOf (hg : Gl X "tuple") (hm : X.mg "tuple" = none) (h : JE z X e t wa) (he : starEach [e] X.env = (false, eval e X.env) :: starEach [] X.env := by rfl) (hpl : (backTo pos (starEach [] X.env)).any (·.1) = false := by rfl) :
    JE z X (.Call (.Name "tuple" p) [e] [] pos) (tCB (kC rTupOf) (tCons t tNil)) (wB1 fTup wa) :=
  je_t1 (p := p) (pos := pos) (x := "tuple") (kC_ok (r := rTupOf) call_tuple_of) den_tupOf hg hm (by decide +kernel) h (by decide) (by decide) he hpl
@[simp] def fAll : PyData → (PyData → Prop) → Prop := fun d P => ∃ bs : List Bool, d = .list (bs.map PyData.bool) ∧ P (.bool (bs.all id))
@[simp] def fAny : PyData → (PyData → Prop) → Prop := fun d P => ∃ bs : List Bool, d = .list (bs.map PyData.bool) ∧ P (.bool (bs.any id))
theorem den_all : DenB z (kC rAll) fAll := by
  intro H F x d P Q s r h k K
  obtain ⟨bs, rfl, q⟩ := h
  cases r with
  | lst e r =>
    have e2 := r.ofBools
    subst e2
    exact ⟨_, bs, rfl, SqL.of (s _ _ e), k _ H F _ (Grow.stay s) (.bl _) q⟩
theorem den_any : DenB z (kC rAny) fAny := by
  intro H F x d P Q s r h k K
  obtain ⟨bs, rfl, q⟩ := h
  cases r with
  | lst e r =>
    have e2 := r.ofBools
    subst e2
    exact ⟨_, bs, rfl, SqL.of (s _ _ e), k _ H F _ (Grow.stay s) (.bl _) q⟩
theorem je_all (hg : Gl X "all") (hm : X.mg "all" = none) (h : JE z X e t wa) (hc : X.calm = true := by rfl) (he : starEach [e] X.env = (false, eval e X.env) :: starEach [] X.env := by rfl) (hpl : (backTo pos (starEach [] X.env)).any (·.1) = false := by rfl) :
    JE z X (.Call (.Name "all" p) [e] [] pos) (tCB (kC rAll) (tCons t tNil)) (wB1 fAll wa) :=
  je_b1 (p := p) (pos := pos) (x := "all") (kC_ok (cr_all hc)) den_all hg hm (by decide +kernel) h (by decide) (by decide) he hpl
theorem je_any (hg : Gl X "any") (hm : X.mg "any" = none) (h : JE z X e t wa) (hc : X.calm = true := by rfl) (he : starEach [e] X.env = (false, eval e X.env) :: starEach [] X.env := by rfl) (hpl : (backTo pos (starEach [] X.env)).any (·.1) = false := by rfl) :
    JE z X (.Call (.Name "any" p) [e] [] pos) (tCB (kC rAny) (tCons t tNil)) (wB1 fAny wa) :=
  je_b1 (p := p) (pos := pos) (x := "any") (kC_ok (cr_any hc)) den_any hg hm (by decide +kernel) h (by decide) (by decide) he hpl
/-- list(e): a fresh list -/
@[simp] def wListOf (w : WE) : WA := fun en P => w en fun d n => ∃ ds, seqD d = some ds ∧ P ds n
theorem none_of_sub {F H : Hp} {l : Addr} (s : Ex F H) (hl : H l = none) : F l = none := by
  cases e : F l with
  | none => rfl
  | some o => rw [s l o e] at hl; cases hl
def rLstOf (K : PySem.W.Frag) : List V → Hp → VK → Prop := fun xs H Q => ∃ p ys, xs = [.ref p] ∧ (SqL K H p ys ∨ SqT K H p ys) ∧ ∀ l, H l = none → Q (.ref l) (upd H l (.lst ys))
theorem jl_list (hg : Gl X "list") (hm : X.mg "list" = none) (h : JE z X e t wa) (he : starEach [e] X.env = (false, eval e X.env) :: starEach [] X.env := by rfl) (hpl : (backTo pos (starEach [] X.env)).any (·.1) = false := by rfl) :
    JL z X (.Call (.Name "list" p) [e] [] pos) (tCB (kC rLstOf) (tCons t tNil)) (wListOf wa) where
  pe := pe_callTy (kC_ok (r := rLstOf) call_list_of) hg hm (by decide +kernel) (pa_cons h.pe pa_nil he) (by decide) (by decide) he hpl
  de := fun B σ H F en s P Q hw k => by
    refine h.de B σ H F en s _ _ hw fun v H1 F1 d n1 g1 s1 r1 q1 => ?_
    obtain ⟨ds, h1, q⟩ := q1
    obtain ⟨a, xs, rfl, h2, h3⟩ := r1.seqA g1.sub h1
    exact fun K => ⟨a, xs, rfl, h2 K, fun l hl => k l xs _ F1 ds n1 (g1.trans (Grow.fresh g1.sub hl)) (s1.upd (zv_not s1 hl)) (g1.dom l hl) (none_of_sub g1.sub hl) upd_same h3 q⟩

/-! ### subscripts, slices -/
theorem RpA.atI {F : Hp} {xs : List V} {ds : List PyData} {i : Int} {d : PyData} (r : RpA F xs ds) (h : atI ds i = some d) : ∃ v, L2.atI xs i = some v ∧ Rp F v d := by
  unfold L2.atI at h ⊢
  rw [r.length]
  cases e : ixN ds.length i with
  | none => rw [e] at h; cases h
  | some j =>
    rw [e] at h
    exact r.get (show ds[j]? = some d from h)
theorem kI_ok {r : Fg → R2} (h : IxR X (r X.K)) : IxR X (kR r) := fun value slice pins s σ H x y v u Q I rx ry q hs => h value slice pins s σ H x y v u Q I rx ry (q X.K) hs
@[simp] def fIx : PyData → PyData → (PyData → Prop) → Prop := fun d e P => ∃ ds i r, seqD d = some ds ∧ e = .int i ∧ L2.atI ds i = some r ∧ P r
theorem den_ix : DenR z (kR rIx) fIx := by
  intro H F x y d e P Q s rx ry hf k K
  obtain ⟨ds, i, r, h1, rfl, h2, q⟩ := hf
  cases ry
  obtain ⟨a, xs, rfl, h3, h4⟩ := rx.seq s h1
  obtain ⟨v, h5, h6⟩ := h4.atI h2
  rcases h3 with h3 | h3
  · exact .inl ⟨a, xs, i, v, rfl, rfl, h3, h5, k _ H F _ (Grow.stay s) h6 q⟩
  · exact .inr (.inl ⟨a, xs, i, v, rfl, rfl, h3, h5, k _ H F _ (Grow.stay s) h6 q⟩)
theorem je_ix (ha : JE z X a ta wa) (hb : JE z X b tb wb) (hs : PlainIx b := by exact fun _ _ => rfl) : JE z X (.Subscript a b pos) (tOp (kR rIx) ta tb) (wOp fIx wa wb) := ⟨pe_ix (kI_ok ix_seq) ha.pe hb.pe hs, den_op den_ix ha.de hb.de⟩
/-- the items lo .. hi -/
def cutD {α : Type} (xs : List α) (lo hi : Option Int) : List α := (xs.drop (HT.sIx xs.length 0 lo)).take (HT.sIx xs.length xs.length hi - HT.sIx xs.length 0 lo)
theorem RpA.cut {F : Hp} {xs : List V} {ds : List PyData} {lo hi : Option Int} (r : RpA F xs ds) : RpA F (cutV xs lo hi) (cutD ds lo hi) := by
  unfold cutV cutD
  rw [r.length]
  exact (r.drop _).take _
def DenO (z : Zn) (t : TO) (w : En → (Option Int → Nat → Prop) → Prop) : Prop := ∀ (B : Hp) (σ : L2.St) (H F : Hp) (en : En), Sit z B σ H F en → ∀ (P : Option Int → Nat → Prop) (Q : Option Int → Hp → Prop), w en P →
  (∀ b H' F' n, Grow z F H F' H' → Stm z n H' → P b n → Q b H') → t σ H Q
structure JO (z : Zn) (X : Cx) (e : Option Expr) (t : TO) (w : En → (Option Int → Nat → Prop) → Prop) : Prop where
  po : PO X e t
  de : DenO z t w
@[simp] def wNoPart : En → (Option Int → Nat → Prop) → Prop := fun en P => P none en.n
@[simp] def wPart (w : WE) : En → (Option Int → Nat → Prop) → Prop := fun en P => w en fun d n => ∃ i, d = .int i ∧ P (some i) n
theorem jo_none : JO z X none tNoPart wNoPart := ⟨po_none, fun B σ H F en s P Q hw k => k none H F en.n (Grow.refl s.sub) s.stm hw⟩
theorem jo_some (h : JE z X e t wa) : JO z X (some e) (tPart t) (wPart wa) where
  po := po_some h.pe
  de := fun B σ H F en s P Q hw k => by
    refine h.de B σ H F en s _ _ hw fun v H1 F1 d n1 g1 s1 r1 q1 => ?_
    obtain ⟨i, rfl, q⟩ := q1
    cases r1
    exact ⟨i, rfl, k _ H1 F1 n1 g1 s1 q⟩
section
variable {lo hi : Option Expr} {tl th : TO} {wl wh : En → (Option Int → Nat → Prop) → Prop}
def kSl (r : Fg → V → Option Int → Option Int → Hp → VK → Prop) : V → Option Int → Option Int → Hp → VK → Prop := fun x l u H Q => ∀ K, r K x l u H Q
theorem kSl_ok {r : Fg → V → Option Int → Option Int → Hp → VK → Prop} (h : SlR X (r X.K)) : SlR X (kSl r) := fun pins s σ H x v vl vu lo hi sl Q I rx hs pl pu q => h pins s σ H x v vl vu lo hi sl Q I rx hs pl pu (q X.K)
/-- a slice of a list or a tuple -/
def cutK : PyData → Option Int → Option Int → PyData
  | .list ds, l, u => .list (cutD ds l u)
  | .tuple ds, l, u => .tuple (cutD ds l u)
  | d, _, _ => d
@[simp] theorem cutK_l (ds : List PyData) (l u : Option Int) : cutK (.list ds) l u = .list (cutD ds l u) := rfl
@[simp] theorem cutK_t (ds : List PyData) (l u : Option Int) : cutK (.tuple ds) l u = .tuple (cutD ds l u) := rfl
@[simp] theorem seqD_cutK (d : PyData) (l u : Option Int) : seqD (cutK d l u) = (seqD d).map fun ds => cutD ds l u := by cases d <;> rfl
@[simp] def wSl (wa : WE) (wl wh : En → (Option Int → Nat → Prop) → Prop) : WE := fun en P => wa en fun d n => wl ⟨en.s, n⟩ fun l n1 => wh ⟨en.s, n1⟩ fun u n2 => isSeq d = true ∧ P (cutK d l u) n2
theorem je_sl (h : JE z X e t wa) (hl : JO z X lo tl wl) (hu : JO z X hi th wh) : JE z X (.Subscript e (.Slice lo hi none p2) pos) (tSl (kSl fun K x l u H Q => rSlL K x l u H Q ∨ rSlA K x l u H Q) t tl th) (wSl wa wl wh) where
  pe := pe_slice (kSl_ok (r := fun K x l u H Q => rSlL K x l u H Q ∨ rSlA K x l u H Q) (SlR.or sl_list sl_tupA)) h.pe hl.po hu.po
  de := fun B σ H F en s P Q hw k => by
    refine h.de B σ H F en s _ _ hw fun v H1 F1 d n1 g1 s1 r1 q1 => ?_
    refine hl.de B σ H1 F1 _ (s.grow g1 s1) _ _ q1 fun l H2 F2 n2 g2 s2 q2 => ?_
    refine hu.de B σ H2 F2 _ ((s.grow g1 s1).grow g2 s2) _ _ q2 fun u H3 F3 n3 g3 s3 q3 => ?_
    obtain ⟨hq, q⟩ := q3
    intro K
    have g := (g1.trans g2).trans g3
    have r3 := (r1.mono g2.ext).mono g3.ext
    cases r3 with
    | lst e r =>
      refine .inl ⟨_, _, rfl, SqL.of (g3.sub _ _ e), fun p hp => ?_⟩
      exact k _ _ _ _ n3 (g.trans (Grow.laid g3.sub hp)) (s3.upd (zv_not s3 hp)) (.lst upd_same (r.cut.mono (ex_upd (none_of_sub g3.sub hp)))) q
    | @tup a xs ds e r =>
      refine .inr ⟨a, xs, rfl, SqT.of (g3.sub _ _ e), fun hw => ?_, fun _ p hp => ?_⟩
      · have e2 : cutD ds l u = ds := by
          unfold cutD
          rw [r.length] at hw
          rw [hw.1, hw.2]
          simp
        have q' : P (.tuple (cutD ds l u)) n3 := q
        rw [e2] at q'
        exact k _ H3 F3 _ n3 g s3 (.tup e r) q'
      · exact k _ _ _ _ n3 (g.trans (Grow.laid g3.sub hp)) (s3.upd (zv_not s3 hp)) (.tup upd_same (r.cut.mono (ex_upd (none_of_sub g3.sub hp)))) q
    | non => cases hq
    | bl _ => cases hq
    | int _ => cases hq
    | str _ => cases hq
    | dK _ _ => cases hq
    | dT _ _ _ => cases hq
/-- a slice of a list, fresh -/
@[simp] def wSlL (wa : WE) (wl wh : En → (Option Int → Nat → Prop) → Prop) : WA := fun en P => wa en fun d n => wl ⟨en.s, n⟩ fun l n1 => wh ⟨en.s, n1⟩ fun u n2 => ∃ ds, d = .list ds ∧ P (cutD ds l u) n2
theorem jl_sl (h : JE z X e t wa) (hl : JO z X lo tl wl) (hu : JO z X hi th wh) : JL z X (.Subscript e (.Slice lo hi none p2) pos) (tSl (kSl rSlL) t tl th) (wSlL wa wl wh) where
  pe := pe_slice (kSl_ok sl_list) h.pe hl.po hu.po
  de := fun B σ H F en s P Q hw k => by
    refine h.de B σ H F en s _ _ hw fun v H1 F1 d n1 g1 s1 r1 q1 => ?_
    refine hl.de B σ H1 F1 _ (s.grow g1 s1) _ _ q1 fun l H2 F2 n2 g2 s2 q2 => ?_
    refine hu.de B σ H2 F2 _ ((s.grow g1 s1).grow g2 s2) _ _ q2 fun u H3 F3 n3 g3 s3 q3 => ?_
    obtain ⟨ds, rfl, q⟩ := q3
    intro K
    have g := (g1.trans g2).trans g3
    have r3 := (r1.mono g2.ext).mono g3.ext
    cases r3 with
    | lst e r =>
      refine ⟨_, _, rfl, SqL.of (g3.sub _ _ e), fun p hp => ?_⟩
      exact k _ _ _ _ _ n3 (g.trans (Grow.fresh g3.sub hp)) (s3.upd (zv_not s3 hp)) (g.dom p hp) (none_of_sub g3.sub hp) upd_same r.cut q
end
/-- xs[::-1], a fresh list -/
def tRv (t : TE) : TE := fun σ H Q => ∀ K, tRevL K t σ H Q
@[simp] def wRev (wa : WE) : WA := fun en P => wa en fun d n => ∃ ds, d = .list ds ∧ P ds.reverse n
theorem jl_rev {k : Nat} {p1 p5 : Pos} (h : JE z X e t wa) : JL z X (.Subscript e (.Slice none none (some (.UnaryOp .USub (.Constant (.int 1) k p1) p5)) p3) pos) (tRv t) (wRev wa) where
  pe := ⟨fun pins s σ H Q I q => (pe_revL h.pe).run pins s σ H Q I (q X.K)⟩
  de := fun B σ H F en s P Q hw kk => by
    intro K
    refine h.de B σ H F en s _ _ hw fun v H1 F1 d n1 g1 s1 r1 q1 => ?_
    obtain ⟨ds, rfl, q⟩ := q1
    cases r1 with
    | lst e r =>
      refine ⟨_, _, rfl, SqL.of (g1.sub _ _ e), fun p hp => ?_⟩
      exact kk _ _ _ _ _ n1 (g1.trans (Grow.fresh g1.sub hp)) (s1.upd (zv_not s1 hp)) (g1.dom p hp) (none_of_sub g1.sub hp) upd_same r.reverse q
/-- lists joined: a fresh list -/
@[simp] def wCat (wa wb : WE) : WA := fun en P => wa en fun d n => wb ⟨en.s, n⟩ fun e n' => ∃ ds es, d = .list ds ∧ e = .list es ∧ ds.length + es.length ≤ 100000 ∧ P (ds ++ es) n'
theorem jl_cat (ha : JE z X a ta wa) (hb : JE z X b tb wb) : JL z X (.BinOp a .Add b pos) (tOp rCat ta tb) (wCat wa wb) where
  pe := pe_op op_cat ha.pe hb.pe
  de := fun B σ H F en s P Q hw k => by
    refine ha.de B σ H F en s _ _ hw fun v H1 F1 d n1 g1 s1 r1 q1 => ?_
    refine hb.de B σ H1 F1 _ (s.grow g1 s1) _ _ q1 fun u H2 F2 e n2 g2 s2 r2 q2 => ?_
    obtain ⟨ds, es, rfl, rfl, hl, q⟩ := q2
    have r1' := r1.mono g2.ext
    cases r1' with
    | lst e r =>
      cases r2 with
      | lst e' r' =>
        refine ⟨_, _, _, _, rfl, rfl, g2.sub _ _ e, g2.sub _ _ e', Evl.sz_of (by rw [r.length, r'.length]; exact hl), fun p hp => ?_⟩
        exact k _ _ _ _ _ n2 ((g1.trans g2).trans (Grow.fresh g2.sub hp)) (s2.upd (zv_not s2 hp)) ((g1.trans g2).dom p hp) (none_of_sub g2.sub hp) upd_same (r.append r') q
/-- tuples joined -/
@[simp] def fCatT : PyData → PyData → (PyData → Prop) → Prop := fun d e P => ∃ ds es, d = .tuple ds ∧ e = .tuple es ∧ ds.length + es.length ≤ 100000 ∧ P (.tuple (ds ++ es))
theorem den_catT : DenR z (kR rCatA) fCatT := by
  intro H F x y d e P Q s rx ry hf k K
  obtain ⟨ds, es, rfl, rfl, hl, q⟩ := hf
  cases rx with
  | @tup a xs _ e1 r1 =>
    cases ry with
    | @tup b ys _ e2 r2 =>
      refine ⟨a, b, xs, ys, rfl, rfl, SqT.of (s _ _ e1), SqT.of (s _ _ e2), Evl.sz_of (by rw [r1.length, r2.length]; exact hl), fun h => ?_, fun _ h => ?_, fun _ _ p hp => ?_⟩
      · subst h
        cases r1
        exact k _ H F _ (Grow.stay s) (.tup e2 r2) (by simpa using q)
      · subst h
        cases r2
        exact k _ H F _ (Grow.stay s) (.tup e1 r1) (by simpa using q)
      · exact k _ _ _ _ (Grow.laid s hp) (.tup upd_same ((r1.append r2).mono (ex_upd (none_of_sub s hp)))) q
theorem je_catT (ha : JE z X a ta wa) (hb : JE z X b tb wb) : JE z X (.BinOp a .Add b pos) (tOp (kR rCatA) ta tb) (wOp fCatT wa wb) := je_bin (kR_ok op_catA) den_catT ha hb
end
end DD
/-! The Deep layer, 4: what is walked, targets, comprehensions, statements, defs. -/
namespace DD
open PySem PySem.Spec PyProof.Rows L2
open Evl (Ex)

/-! ### what is walked -/
structure Yl (J : It) (F : Hp) (ds : List PyData) : Prop where
  go : ∀ (i : Nat) (H : Hp), Ex F H → i < ds.length → J.go i H
  stop : ∀ (i : Nat) (H : Hp), Ex F H → ds.length ≤ i → J.stop i H
  yld : ∀ (i : Nat) (x : V) (F1 H H' : Hp), Ex F F1 → Ex F1 H → J.yld i H x H' → ∀ d, ds[i]? = some d → ∃ F2, Grow none F1 H F2 H' ∧ Rp F2 x d
def DenI (z : Zn) (wi : TI) (ws : WA) : Prop := ∀ (B : Hp) (σ : L2.St) (H F : Hp) (en : En), Sit z B σ H F en → ∀ (P : List PyData → Nat → Prop) (R : It → Hp → Prop), ws en P →
  (∀ J H' F' ds n, Grow z F H F' H' → Stm z n H' → Yl J F' ds → P ds n → R J H') → wi σ H R
structure JI (z : Zn) (X : Cx) (tg iter : Expr) (wi : TI) (ws : WA) : Prop where
  pi : PI X tg iter wi
  de : DenI z wi ws
theorem yl_list {K : PySem.W.Frag} {F : Hp} {a : Addr} {xs : List V} {ds : List PyData} (h : F a = some (.lst xs)) (r : RpA F xs ds) : Yl (Itl K a) F ds where
  go := fun i H e hi => ⟨xs, xs[i]'(by rw [r.length]; exact hi), SqL.of (e _ _ h), by simp⟩
  stop := fun i H e hi => ⟨xs, SqL.of (e _ _ h), by rw [r.length]; exact hi⟩
  yld := fun i x F1 H H' e1 e2 y d hd => by
    obtain ⟨rfl, y⟩ := y
    obtain ⟨v, h1, h2⟩ := r.get hd
    have := y xs (SqL.of (e2 _ _ (e1 _ _ h)))
    rw [h1] at this
    cases this
    exact ⟨F1, Grow.refl e2, h2.mono e1⟩
theorem yl_tup {K : PySem.W.Frag} {F : Hp} {a : Addr} {xs : List V} {ds : List PyData} (h : F a = some (.tup xs)) (r : RpA F xs ds) : Yl (Itt K a) F ds where
  go := fun i H e hi => ⟨xs, xs[i]'(by rw [r.length]; exact hi), SqT.of (e _ _ h), by simp⟩
  stop := fun i H e hi => ⟨xs, SqT.of (e _ _ h), by rw [r.length]; exact hi⟩
  yld := fun i x F1 H H' e1 e2 y d hd => by
    obtain ⟨rfl, y⟩ := y
    obtain ⟨v, h1, h2⟩ := r.get hd
    have := y xs (SqT.of (e2 _ _ (e1 _ _ h)))
    rw [h1] at this
    cases this
    exact ⟨F1, Grow.refl e2, h2.mono e1⟩
def rgD (lo : Int) (n : Nat) : List PyData := (List.range n).map fun (i : Nat) => .int (lo + i)
theorem rgD_len (lo : Int) (n : Nat) : (rgD lo n).length = n := by simp [rgD]
theorem rgD_get {lo : Int} {n i : Nat} {d : PyData} (h : (rgD lo n)[i]? = some d) : d = .int (lo + i) ∧ i < n := by
  unfold rgD at h
  rw [List.getElem?_map] at h
  cases e : (List.range n)[i]? with
  | none => rw [e] at h; cases h
  | some j =>
    rw [e] at h
    obtain ⟨h1, h2⟩ := List.getElem?_eq_some_iff.mp e
    simp at h1 h2
    subst h2
    exact ⟨by cases h; rfl, h1⟩
theorem yl_range {F : Hp} {lo : Int} {n : Nat} : Yl (Itr lo n) F (rgD lo n) where
  go := fun i H _ hi => by rw [rgD_len] at hi; exact hi
  stop := fun i H _ hi => by rw [rgD_len] at hi; exact hi
  yld := fun i x F1 H H' e1 e2 y d hd => by
    obtain ⟨rfl, rfl⟩ := y
    obtain ⟨rfl, _⟩ := rgD_get hd
    exact ⟨F1, Grow.refl e2, .int _⟩
def zipD (ds es : List PyData) : List PyData := List.zipWith (fun x y => .tuple [x, y]) ds es
theorem zipD_get {ds es : List PyData} {i : Nat} {d : PyData} (h : (zipD ds es)[i]? = some d) : ∃ x y, ds[i]? = some x ∧ es[i]? = some y ∧ d = .tuple [x, y] := by
  unfold zipD at h
  rw [List.getElem?_zipWith] at h
  cases e1 : ds[i]? with
  | none => rw [e1] at h; cases h
  | some x =>
    cases e2 : es[i]? with
    | none => rw [e1, e2] at h; cases h
    | some y =>
      rw [e1, e2] at h
      cases h
      exact ⟨x, y, rfl, rfl, rfl⟩
theorem zipD_len (ds es : List PyData) : (zipD ds es).length = min ds.length es.length := by simp [zipD]
theorem yl_zip {K : PySem.W.Frag} {F : Hp} {a b : Addr} {xs ys : List V} {ds es : List PyData} (h : F a = some (.lst xs)) (r : RpA F xs ds) (h' : F b = some (.lst ys)) (r' : RpA F ys es) : Yl (Itz K a b) F (zipD ds es) where
  go := fun i H e hi => by
    rw [zipD_len] at hi
    have h1 : i < xs.length := by rw [r.length]; omega
    have h2 : i < ys.length := by rw [r'.length]; omega
    exact ⟨xs, ys, xs[i], ys[i], SqL.of (e _ _ h), SqL.of (e _ _ h'), by simp, by simp⟩
  stop := fun i H e hi => by
    rw [zipD_len] at hi
    refine ⟨xs, ys, SqL.of (e _ _ h), SqL.of (e _ _ h'), ?_⟩
    rw [r.length, r'.length]
    omega
  yld := fun i x F1 H H' e1 e2 y d hd => by
    obtain ⟨T, p, q, rfl, hT, rfl, f1, f2⟩ := y
    obtain ⟨dx, dy, g1, g2, rfl⟩ := zipD_get hd
    obtain ⟨v, a1, a2⟩ := r.get g1
    obtain ⟨u, b1, b2⟩ := r'.get g2
    have q1 := f1 xs (SqL.of (e2 _ _ (e1 _ _ h)))
    rw [a1] at q1
    cases q1
    have q2 := f2 ys (SqL.of (e2 _ _ (e1 _ _ h')))
    rw [b1] at q2
    cases q2
    have hF := none_of_sub e2 hT
    exact ⟨_, Grow.laid e2 hT, .tup upd_same (.cons ((a2.mono e1).mono (ex_upd hF)) (.cons ((b2.mono e1).mono (ex_upd hF)) .nil))⟩
theorem yl_zipT {K : PySem.W.Frag} {F : Hp} {a b : Addr} {xs ys : List V} {ds es : List PyData} (h : F a = some (.tup xs)) (r : RpA F xs ds) (h' : F b = some (.tup ys)) (r' : RpA F ys es) : Yl (RZ.ItzT K a b) F (zipD ds es) where
  go := fun i H e hi => by
    rw [zipD_len] at hi
    have h1 : i < xs.length := by rw [r.length]; omega
    have h2 : i < ys.length := by rw [r'.length]; omega
    exact ⟨xs, ys, xs[i], ys[i], SqT.of (e _ _ h), SqT.of (e _ _ h'), by simp, by simp⟩
  stop := fun i H e hi => by
    rw [zipD_len] at hi
    refine ⟨xs, ys, SqT.of (e _ _ h), SqT.of (e _ _ h'), ?_⟩
    rw [r.length, r'.length]
    omega
  yld := fun i x F1 H H' e1 e2 y d hd => by
    obtain ⟨T, p, q, rfl, hT, rfl, f1, f2⟩ := y
    obtain ⟨dx, dy, g1, g2, rfl⟩ := zipD_get hd
    obtain ⟨v, a1, a2⟩ := r.get g1
    obtain ⟨u, b1, b2⟩ := r'.get g2
    have q1 := f1 xs (SqT.of (e2 _ _ (e1 _ _ h)))
    rw [a1] at q1
    cases q1
    have q2 := f2 ys (SqT.of (e2 _ _ (e1 _ _ h')))
    rw [b1] at q2
    cases q2
    have hF := none_of_sub e2 hT
    exact ⟨_, Grow.laid e2 hT, .tup upd_same (.cons ((a2.mono e1).mono (ex_upd hF)) (.cons ((b2.mono e1).mono (ex_upd hF)) .nil))⟩

section
variable {z : Zn} {X : Cx} {tg e a b : Expr} {t ta tb : TE} {pos p : Pos} {wa wb : WE}
def iSeq (tl : TE) : TI := fun σ H R => tl σ H fun x H1 => ∀ K : PySem.W.Frag, ∃ a, x = .ref a ∧ (((∃ xs, SqL K H1 a xs) ∧ R (Itl K a) H1) ∨ ((∃ xs, SqT K H1 a xs) ∧ R (Itt K a) H1))
theorem pi_seq {l : Expr} {tl : TE} (hl : PE X l tl) : PI X tg l (iSeq tl) := by
  refine ⟨fun pins s σ H R I h => ?_⟩
  refine thn (hl.run pins s σ H _ I h) fun v s1 ⟨x, H1, I1, r1, q1⟩ => ?_
  obtain ⟨a, e, q2⟩ := q1 X.K
  subst e
  cases r1
  rcases q2 with ⟨⟨xs, hq⟩, q⟩ | ⟨⟨xs, hq⟩, q⟩
  · obtain ⟨its, rv, p, hz⟩ := I1.list hq
    refine wpAny_pyIter_list p.isList ?_
    refine ⟨s1.heap.objs.size, [s1.heap.objs.size], _, _, H1, rfl, I1.kept (t' := s1.toks) fun b o e => Heap.get?_push_of_some _ e, turn_list a _, ⟨_, Heap.get?_push_size _ rfl, rfl, rfl⟩, fun b hb => ?_, q⟩
    have e : b = s1.heap.objs.size := by simpa using hb
    subst e
    exact I1.fpOk (Nat.le_refl _) (I1.hok.fresh (Nat.le_refl _))
  · obtain ⟨its, rv, p, hz⟩ := I1.tuple hq
    refine wpAny_pyIter_tuple (show s1.heap.IsTuple a its.toArray from p) ?_
    refine ⟨s1.heap.objs.size, [s1.heap.objs.size], _, _, H1, rfl, I1.kept (t' := s1.toks) fun b o e => Heap.get?_push_of_some _ e, turn_tuple a _, ⟨_, Heap.get?_push_size _ rfl, rfl, rfl⟩, fun b hb => ?_, q⟩
    have e : b = s1.heap.objs.size := by simpa using hb
    subst e
    exact I1.fpOk (Nat.le_refl _) (I1.hok.fresh (Nat.le_refl _))
@[simp] def wSeqOf (w : WE) : WA := fun en P => w en fun d n => ∃ ds, seqD d = some ds ∧ P ds n
theorem ji_seq (h : JE z X e t wa) : JI z X tg e (iSeq t) (wSeqOf wa) where
  pi := pi_seq h.pe
  de := fun B σ H F en s P R hw k => by
    refine h.de B σ H F en s _ _ hw fun v H1 F1 d n1 g1 s1 r1 q1 => ?_
    obtain ⟨ds, h1, q⟩ := q1
    intro K
    cases r1 with
    | lst e r => cases h1; exact ⟨_, rfl, .inl ⟨⟨_, SqL.of (g1.sub _ _ e)⟩, k _ H1 F1 _ n1 g1 s1 (yl_list e r) q⟩⟩
    | tup e r => cases h1; exact ⟨_, rfl, .inr ⟨⟨_, SqT.of (g1.sub _ _ e)⟩, k _ H1 F1 _ n1 g1 s1 (yl_tup e r) q⟩⟩
    | non => cases h1
    | bl _ => cases h1
    | int _ => cases h1
    | str _ => cases h1
    | dK _ _ => cases h1
    | dT _ _ _ => cases h1
@[simp] def wRng1 (w : WE) : WA := fun en P => w en fun d n => ∃ j, d = .int j ∧ -(2 ^ 62) ≤ j ∧ j < 2 ^ 62 ∧ P (rgD 0 j.toNat) n
theorem ji_range1 (hg : Gl X "range") (hm : X.mg "range" = none) (h : JE z X a ta wa) (hs : starEach [a] X.env = [(false, eval a X.env)] := by rfl) : JI z X tg (.Call (.Name "range" p) [a] [] pos) (iRng1 (tCons ta tNil)) (wRng1 wa) where
  pi := pi_range1 hg hm (pa_cons h.pe pa_nil hs) hs
  de := fun B σ H F en s P R hw k => by
    refine h.de B σ H F en s _ _ hw fun v H1 F1 d n1 g1 s1 r1 q1 => ?_
    obtain ⟨j, rfl, h1, h2, q⟩ := q1
    cases r1
    exact ⟨j, rfl, h1, h2, k _ H1 F1 _ n1 g1 s1 yl_range q⟩
def iZp (ta : TA) : TI := fun σ H R => ∀ K : PySem.W.Frag, RZ.iZipA K ta σ H R
@[simp] def wZip (wa wb : WE) : WA := fun en P => wa en fun d n => wb ⟨en.s, n⟩ fun e n' => ((∃ ds es, d = .list ds ∧ e = .list es ∧ P (zipD ds es) n') ∨ (∃ ds es, d = .tuple ds ∧ e = .tuple es ∧ P (zipD ds es) n'))
theorem ji_zip {elts : List Expr} {kk : Nat} {tpos : Pos} (hg : Gl X "zip") (hm : X.mg "zip" = none) (ha : JE z X a ta wa) (hb : JE z X b tb wb) (hs : starEach [a, b] X.env = (false, eval a X.env) :: starEach [b] X.env := by rfl)
    (hs2 : starEach [b] X.env = (false, eval b X.env) :: starEach [] X.env := by rfl) (hpl : (backTo pos (starEach [b] X.env)).any (·.1) = false := by rfl) :
    JI z X (.Tuple elts kk tpos) (.Call (.Name "zip" p) [a, b] [] pos) (iZp (tCons ta (tCons tb tNil))) (wZip wa wb) where
  pi := ⟨fun pins s σ H R I h => (RZ.pi_zipA hg hm (pa_cons ha.pe (pa_cons hb.pe pa_nil hs2) hs) (hpl := hpl) hs).run pins s σ H R I (h X.K)⟩
  de := fun B σ H F en s P R hw k => by
    intro K
    refine ha.de B σ H F en s _ _ hw fun v H1 F1 d n1 g1 s1 r1 q1 => ?_
    refine hb.de B σ H1 F1 _ (s.grow g1 s1) _ _ q1 fun u H2 F2 e n2 g2 s2 r2 q2 => ?_
    have r1' := r1.mono g2.ext
    rcases q2 with ⟨ds, es, rfl, rfl, q⟩ | ⟨ds, es, rfl, rfl, q⟩
    · cases r1' with
      | lst e1 r =>
        cases r2 with
        | lst e2 r' => exact ⟨_, _, _, _, rfl, .inl ⟨SqL.of (g2.sub _ _ e1), SqL.of (g2.sub _ _ e2), k _ H2 F2 _ n2 (g1.trans g2) s2 (yl_zip e1 r e2 r') q⟩⟩
    · cases r1' with
      | tup e1 r =>
        cases r2 with
        | tup e2 r' => exact ⟨_, _, _, _, rfl, .inr ⟨SqT.of (g2.sub _ _ e1), SqT.of (g2.sub _ _ e2), k _ H2 F2 _ n2 (g1.trans g2) s2 (yl_zipT e1 r e2 r') q⟩⟩
end

/-! ### targets -/
def Agr (js : List Nat) (σ σ' : L2.St) : Prop := σ'.length = σ.length ∧ ∀ i : Nat, i ∉ js → σ'[i]? = σ[i]?
def DenG (z : Zn) (g : TG) (js : List Nat) (wg : En → PyData → (En → Prop) → Prop) : Prop := ∀ (B : Hp) (σ : L2.St) (H F : Hp) (en : En) (v : V) (d : PyData), Sit z B σ H F en → Rp F v d → ∀ (P : En → Prop) (Q : L2.St → Hp → Prop), wg en d P →
  (∀ σ' en', Sit z B σ' H F en' → Agr js σ σ' → P en' → Q σ' H) → g v σ H Q
def DenGs (z : Zn) (g : TGs) (js : List Nat) (wg : En → List PyData → (En → Prop) → Prop) : Prop := ∀ (B : Hp) (σ : L2.St) (H F : Hp) (en : En) (v : List V) (d : List PyData), Sit z B σ H F en → RpA F v d → ∀ (P : En → Prop) (Q : L2.St → Hp → Prop), wg en d P →
  (∀ σ' en', Sit z B σ' H F en' → Agr js σ σ' → P en' → Q σ' H) → g v σ H Q
structure JG (z : Zn) (X : Cx) (tg : Expr) (g : TG) (js : List Nat) (wg : En → PyData → (En → Prop) → Prop) : Prop where
  pg : PG X tg g
  de : DenG z g js wg
structure JGs (z : Zn) (X : Cx) (tg : List Expr) (g : TGs) (js : List Nat) (wg : En → List PyData → (En → Prop) → Prop) : Prop where
  pg : PGs X tg g
  de : DenGs z g js wg
section
variable {z : Zn} {X : Cx} {tg e : Expr} {es : List Expr} {pos : Pos}
@[simp] def wgN (i : Nat) : En → PyData → (En → Prop) → Prop := fun en d P => P ⟨en.s.set i (.val d), en.n⟩
theorem jg_name (i : Nat) {x : Str} (hN : X.N.Nodup) (hi : X.N[i]? = some x) (hx : Loc X.env.scope x) (hf : X.fn x = true ∨ X.env.scope.names.lookup x = some .local := by first | exact .inl rfl | exact .inr rfl | assumption) : JG z X (.Name x pos) (gName i) [i] (wgN i) where
  pg := pg_name hN hi hx hf
  de := fun B σ H F en v d s r P Q hw k => k _ _ (s.set i r) ⟨by simp, fun j hj => by
    rw [List.getElem?_set_ne]
    intro q
    exact hj (by simp [q])⟩ hw
def wgNil : En → List PyData → (En → Prop) → Prop := fun en ds P => ds = [] ∧ P en
def wgCons (w : En → PyData → (En → Prop) → Prop) (u : En → List PyData → (En → Prop) → Prop) : En → List PyData → (En → Prop) → Prop := fun en ds P => ∃ d r, ds = d :: r ∧ w en d fun en' => u en' r P
@[simp] theorem wgNil_at (en : En) (P : En → Prop) : wgNil en [] P ↔ P en := ⟨fun h => h.2, fun h => ⟨rfl, h⟩⟩
@[simp] theorem wgCons_at (w : En → PyData → (En → Prop) → Prop) (u : En → List PyData → (En → Prop) → Prop) (en : En) (d : PyData) (r : List PyData) (P : En → Prop) : wgCons w u en (d :: r) P ↔ w en d fun en' => u en' r P := ⟨fun ⟨_, _, h, q⟩ => by cases h; exact q, fun q => ⟨_, _, rfl, q⟩⟩
theorem jgs_nil : JGs z X [] gNil [] wgNil := ⟨pgs_nil, fun B σ H F en v d s r P Q hw k => by
  obtain ⟨rfl, q⟩ := hw
  cases r
  exact ⟨rfl, k σ en s ⟨rfl, fun _ _ => rfl⟩ q⟩⟩
theorem jgs_cons {g : TG} {gs : TGs} {js ks : List Nat} {w : En → PyData → (En → Prop) → Prop} {u : En → List PyData → (En → Prop) → Prop} (h : JG z X e g js w) (hs : JGs z X es gs ks u)
    (ha : (assignEach (e :: es) X.env).map (·.2) = assign e X.env :: (assignEach es X.env).map (·.2) := by rfl) : JGs z X (e :: es) (gCons g gs) (js ++ ks) (wgCons w u) where
  pg := pgs_cons h.pg hs.pg ha
  de := fun B σ H F en v d s r P Q hw k => by
    obtain ⟨d0, dr, rfl, q⟩ := hw
    cases r with
    | cons r0 rr =>
      refine ⟨_, _, rfl, h.de B σ H F en _ _ s r0 _ _ q fun σ' en' s' a' q' => ?_⟩
      exact hs.de B σ' H F en' _ _ s' rr _ _ q' fun σ2 en2 s2 a2 q2 => k σ2 en2 s2 ⟨a2.1.trans a'.1, fun i hi => by
        rw [List.mem_append, not_or] at hi
        rw [a2.2 i hi.2, a'.2 i hi.1]⟩ q2
def gSq (n : Nat) (t : TGs) : TG := fun v σ H Q => ∃ a xs, v = .ref a ∧ (∀ K : PySem.W.Frag, SqL K H a xs ∨ SqT K H a xs) ∧ xs.length = n ∧ t xs σ H Q
theorem pg_sq {k : Nat} {t : TGs} {n : Nat} (hc : X.calm = true) (h : PGs X es t) (hn : (assignEach es X.env).length = n := by rfl) (hst : (assignEach es X.env).findIdx? (·.1) = none := by rfl) : PG X (.Tuple es k pos) (gSq n t) := by
  refine ⟨fun pins s σ H v u Q I r hw => ?_⟩
  obtain ⟨a, xs, e1, hq, hl, hw⟩ := hw
  rcases hq X.K with hq | hq
  · exact (pg_lst (k := k) (pos := pos) hc h hn hst).run pins s σ H v u Q I r ⟨a, xs, e1, hq, hl, hw⟩
  · exact (pg_tup (k := k) (pos := pos) hc h hn hst).run pins s σ H v u Q I r ⟨a, xs, e1, hq, hl, hw⟩
@[simp] def wgSq (n : Nat) (u : En → List PyData → (En → Prop) → Prop) : En → PyData → (En → Prop) → Prop := fun en d P => ∃ ds, seqD d = some ds ∧ ds.length = n ∧ u en ds P
theorem jg_tup {k : Nat} {gs : TGs} {js : List Nat} {u : En → List PyData → (En → Prop) → Prop} (n : Nat) (h : JGs z X es gs js u) (hc : X.calm = true := by rfl) (hn : (assignEach es X.env).length = n := by rfl) (hst : (assignEach es X.env).findIdx? (·.1) = none := by rfl) : JG z X (.Tuple es k pos) (gSq n gs) js (wgSq n u) where
  pg := pg_sq hc h.pg hn hst
  de := fun B σ H F en v d s r P Q hw kk => by
    obtain ⟨ds, h1, h2, q⟩ := hw
    obtain ⟨a, xs, rfl, h3, h4⟩ := r.seqA s.sub h1
    exact ⟨a, xs, rfl, h3, by rw [h4.length]; exact h2, h.de B σ H F en xs ds s h4 P Q q kk⟩
end

/-! ### comprehensions -/
structure JTs (z : Zn) (X : Cx) (es : List Expr) (t : TT) (w : WT) : Prop where
  pts : PTs X es t
  de : DenT z t w
@[simp] def wYes : WT := fun en P => P true en.n
theorem wipe_ext {σ σ' : L2.St} {vs : List Nat} (hl : σ'.length = σ.length) (h : ∀ i : Nat, i ∉ vs → σ'[i]? = σ[i]?) : L2.wipe σ' vs = L2.wipe σ vs := by
  have key : ∀ (ws : List Nat) (τ τ' : L2.St), τ'.length = τ.length → (∀ i : Nat, i ∉ ws → τ'[i]? = τ[i]?) → L2.wipe τ' ws = L2.wipe τ ws := by
    intro ws
    induction ws with
    | nil =>
      intro τ τ' hl h
      exact List.ext_getElem? fun i => h i (by simp)
    | cons w ws ih =>
      intro τ τ' hl h
      show (L2.wipe τ' ws).set w none = (L2.wipe τ ws).set w none
      refine List.ext_getElem? fun i => ?_
      by_cases hi : w = i
      · subst hi
        by_cases hw : w < τ.length
        · rw [List.getElem?_set_self (by rw [wipe_length, hl]; exact hw), List.getElem?_set_self (by rw [wipe_length]; exact hw)]
        · rw [List.getElem?_eq_none (by rw [List.length_set, wipe_length, hl]; omega), List.getElem?_eq_none (by rw [List.length_set, wipe_length]; omega)]
      · rw [List.getElem?_set_ne hi, List.getElem?_set_ne hi]
        by_cases hm : i ∈ ws
        · have e1 := congrArg (fun l => l[i]?) (ih (τ.set w none) (τ'.set w none) (by simpa using hl) (fun j hj => by
            by_cases hjw : w = j
            · subst hjw
              by_cases hw : w < τ.length
              · rw [List.getElem?_set_self (by rw [hl]; exact hw), List.getElem?_set_self hw]
              · rw [List.getElem?_eq_none (by rw [List.length_set, hl]; omega), List.getElem?_eq_none (by rw [List.length_set]; omega)]
            · rw [List.getElem?_set_ne hjw, List.getElem?_set_ne hjw]
              exact h j (by simp [hj]; exact fun q => hjw q.symm)))
          have inw : ∀ (us : List Nat) (ρ : L2.St), i ∈ us → (L2.wipe ρ us)[i]? = if i < ρ.length then some none else none := by
            intro us
            induction us with
            | nil => intro ρ hm; cases hm
            | cons u us ih2 =>
              intro ρ hm
              show ((L2.wipe ρ us).set u none)[i]? = _
              by_cases hu : u = i
              · subst hu
                by_cases hw : u < ρ.length
                · rw [List.getElem?_set_self (by rw [wipe_length]; exact hw), if_pos hw]
                · rw [List.getElem?_eq_none (by rw [List.length_set, wipe_length]; omega), if_neg hw]
              · rw [List.getElem?_set_ne hu]
                rcases List.mem_cons.mp hm with q | q
                · exact absurd q.symm hu
                · exact ih2 ρ q
          rw [inw ws τ' hm, inw ws τ hm, hl]
        · rw [wipe_out hm, wipe_out hm]
          exact h i (by simp [hm]; exact fun q => hi q.symm)
  exact key vs σ σ' hl h
theorem wipe_idem (σ : L2.St) (vs : List Nat) : L2.wipe (L2.wipe σ vs) vs = L2.wipe σ vs := wipe_ext (wipe_length σ vs) fun i hi => wipe_out hi
section
variable {z : Zn} {X : Cx} {tg iter elt : Expr} {ifs : List Expr} {pos : Pos}
theorem jts_nil : JTs z X [] tYes wYes := ⟨pts_nil, fun B σ H F en s P Q hw k => k true H F en.n (Grow.refl s.sub) s.stm hw⟩
theorem jts_one {e : Expr} {t : TT} {w : WT} (h : JT z X e t w) : JTs z X [e] t w := ⟨pts_one h.pt, h.de⟩
def wLc (ws : WA) (wg : En → PyData → (En → Prop) → Prop) (wt : WT) (we : WE) (vs : List Nat) : WA := fun en P => ws en fun ds n => ∃ I : Nat → List PyData → Nat → Prop, I 0 [] n ∧
  (∀ (k : Nat) (d : PyData) (acc : List PyData) (n1 : Nat), ds[k]? = some d → I k acc n1 → wg (wipeE ⟨en.s, n1⟩ vs) d fun en2 => wt en2 fun b n2 => if b = true then we ⟨en2.s, n2⟩ fun r n3 => acc.length < 100000 ∧ I (k + 1) (acc ++ [r]) n3 else I (k + 1) acc n2) ∧
  ∀ acc n1, I ds.length acc n1 → P acc n1
theorem den_lc {wi : TI} {g : TG} {tt : TT} {te : TE} {ws : WA} {js vs : List Nat} {wg : En → PyData → (En → Prop) → Prop} {wt : WT} {we : WE} (hi : DenI z wi ws) (hg : DenG z g js wg) (ht : DenT z tt wt) (he : Den z te we) (hj : ∀ j ∈ js, j ∈ vs) : DenL z (tLc wi g tt te vs) (wLc ws wg wt we vs) := by
  intro B σ H F en s P Q hw k
  refine hi B σ H F en s _ _ hw fun J H1 F1 ds n1 g1 s1 y1 q1 => ?_
  obtain ⟨I, i0, turn, fin⟩ := q1
  intro D hD
  have hDF : F1 D = none := none_of_sub g1.sub hD
  have zD : ¬ Zv z D := zv_not s1 hD
  refine ⟨fun i m H' => m = ds.length - i ∧ i ≤ ds.length ∧ ∃ F' acc dacc n', Grow z F1 H1 F' H' ∧ Stm z n' H' ∧ F' D = none ∧ H' D = some (.lst acc) ∧ RpA F' acc dacc ∧ I i dacc n', ⟨ds.length, rfl, Nat.zero_le _, F1, [], [], n1, Grow.fresh g1.sub hD, s1.upd zD, hDF, upd_same, .nil, i0⟩, ?_⟩
  rintro i m H2 ⟨rfl, hle, F2, acc, dacc, n2, g2, s2, f2, d2, r2, i2⟩
  by_cases hlt : i < ds.length
  · refine .inr ⟨y1.go i H2 (g2.ext.trans g2.sub) hlt, fun H' => ∃ F' acc dacc n', Grow z F1 H1 F' H' ∧ Stm z n' H' ∧ F' D = none ∧ H' D = some (.lst acc) ∧ RpA F' acc dacc ∧ I (i + 1) dacc n', fun H' p => ⟨ds.length - (i + 1), by omega, rfl, hlt, p⟩, fun x H3 hy => ?_⟩
    obtain ⟨F3, g3, r3⟩ := y1.yld i x F2 H2 H3 g2.ext g2.sub hy ds[i] (by simp)
    have s3 : Stm z n2 H3 := s2.ex g3.ex
    have g23 : Grow z F1 H1 F3 H3 := g2.trans g3.weak
    have sit3 : Sit z B σ H3 F3 ⟨en.s, n2⟩ := s.grow (g1.trans g23) s3
    have w3 := sit3.wipe vs
    have d3 : H3 D = some (.lst acc) := g3.ex _ _ d2
    have f3 : F3 D = none := (g3.weak (z := z)).apart d2 zD (fun _ q => nomatch q) f2
    refine hg B _ H3 F3 _ x ds[i] w3 r3 _ _ (turn i ds[i] dacc n2 (by simp) i2) fun σ4 en4 s4 a4 q4 => ?_
    refine ⟨?_, ?_⟩
    · rw [wipe_ext (σ' := σ4) (σ := L2.wipe σ vs) a4.1 fun j hj' => a4.2 j fun q => hj' (hj j q), wipe_idem]
    · refine ht B σ4 H3 F3 en4 s4 _ _ q4 fun b H5 F5 n5 g5 s5 q5 => ?_
      have d5 : H5 D = some (.lst acc) := g5.keep D _ zD d3
      have f5 : F5 D = none := g5.apart d3 zD (fun _ q => nomatch q) f3
      cases b with
      | false =>
        refine iteF ⟨F5, acc, dacc, n5, g23.trans g5, s5, f5, d5, (r2.mono g3.ext).mono g5.ext, by simpa using q5⟩
      | true =>
        refine iteT (he B σ4 H5 F5 _ (s4.grow g5 s5) _ _ (by simpa using q5) fun v H6 F6 d n6 g6 s6 r6 q6 => ?_)
        obtain ⟨hl, q6⟩ := q6
        have d6 : H6 D = some (.lst acc) := g6.keep D _ zD d5
        have f6 : F6 D = none := g6.apart d5 zD (fun _ q => nomatch q) f5
        have r6' := ((r2.mono g3.ext).mono g5.ext).mono g6.ext
        refine ⟨acc, d6, Evl.sz_lt (by rw [r2.length]; exact hl), F6, acc ++ [v], dacc ++ [d], n6, ?_, s6.upd zD, f6, upd_same, r6'.append (.one r6), q6⟩
        have g := (g23.trans g5).trans g6
        exact { keep := fun b o nz h => by
                  rw [upd_ne (ne_of_none h hD)]
                  exact g.keep b o nz h
                dom := fun b h => by
                  by_cases hb : b = D
                  · subst hb; exact hD
                  · rw [upd_ne hb] at h; exact g.dom b h
                ext := g.ext
                sub := fun b u h => by
                  rw [upd_ne (ne_of_none h f6)]
                  exact g.sub b u h
                new := g.new }
  · have e : i = ds.length := by omega
    subst e
    refine .inl ⟨y1.stop _ H2 (g2.ext.trans g2.sub) (Nat.le_refl _), ?_⟩
    exact k D acc H2 F2 dacc n2 (g1.trans g2) s2 (g1.dom D hD) f2 d2 r2 (fin _ _ i2)
end
end DD
/-! The Deep layer, 5: comprehensions as rules, statements, calls, defs. -/
namespace DD
open PySem PySem.Spec PyProof.Rows L2
open Evl (Ex)
section
variable {z : Zn} {X : Cx} {tg iter elt : Expr} {ifs : List Expr} {pos : Pos}
theorem jl_lc {scope : Scope} {wi : TI} {g : TG} {tt : TT} {te : TE} {ws : WA} {js : List Nat} {wg : En → PyData → (En → Prop) → Prop} {wt : WT} {we : WE} (own : List (Str × Nat)) (hN : X.N.Nodup) (hi : JI z X tg iter wi ws) (ok : blkC X.N X.env.scope scope own = true)
    (hg : ∀ (s : Shared) (H : Hp) (C : Addr) (cl : List (Str × Addr)) (fp : List Addr), JG z (X.blk s H scope (compEnvC scope cl C X.env) fp) tg g js wg) (ht : ∀ (s : Shared) (H : Hp) (C : Addr) (cl : List (Str × Addr)) (fp : List Addr), JTs z (X.blk s H scope (compEnvC scope cl C X.env) fp) ifs tt wt)
    (he : ∀ (s : Shared) (H : Hp) (C : Addr) (cl : List (Str × Addr)) (fp : List Addr), JE z (X.blk s H scope (compEnvC scope cl C X.env) fp) elt te we) (hc : X.calm = true := by rfl) (hj : ∀ j ∈ js, j ∈ own.map (·.2) := by decide)
    (hs : ∀ x, foldedSetIterable iter X.env x = pure x := by intro _; rfl) : JL z X (.ListComp elt [⟨tg, iter, ifs, 0⟩] scope pos) (tLc wi g tt te (own.map (·.2))) (wLc ws wg wt we (own.map (·.2))) where
  pe := pe_lc hc hN hi.pi (blkOk_by ok) (fun s H C cl fp => (hg s H C cl fp).pg) (fun s H C cl fp => (ht s H C cl fp).pts) (fun s H C cl fp => (he s H C cl fp).pe) hs
  de := den_lc hi.de (hg X.s_0 (fun _ => none) 0 [] []).de (ht X.s_0 (fun _ => none) 0 [] []).de (he X.s_0 (fun _ => none) 0 [] []).de hj
end

/-! ### statements -/
structure DEn where
  nx : En → Prop
  rt : PyData → Nat → Prop
  bk : En → Prop := fun _ => False
  ct : En → Prop := fun _ => False
abbrev WS := DEn → En → Prop
structure EndsOk (z : Zn) (B F0 : Hp) (P : DEn) (D : Ends) : Prop where
  nx : ∀ σ' H' F' en', Sit z B σ' H' F' en' → Grow z F0 B F' H' → P.nx en' → D.nx σ' H'
  rt : ∀ v H' F' d n, Grow z F0 B F' H' → Stm z n H' → Rp F' v d → P.rt d n → D.rt v H'
  bk : ∀ σ' H' F' en', Sit z B σ' H' F' en' → Grow z F0 B F' H' → P.bk en' → D.bk σ' H'
  ct : ∀ σ' H' F' en', Sit z B σ' H' F' en' → Grow z F0 B F' H' → P.ct en' → D.ct σ' H'
def DenS (z : Zn) (t : TS) (w : WS) : Prop := ∀ (B F0 : Hp) (σ : L2.St) (H F : Hp) (en : En) (D : Ends) (P : DEn), Sit z B σ H F en → Grow z F0 B F H → w P en → EndsOk z B F0 P D → t D σ H
structure JS (z : Zn) (X : Cx) (st : Stmt) (t : TS) (w : WS) : Prop where
  ps : PS X st t
  de : DenS z t w
structure JSs (z : Zn) (X : Cx) (sts : List Stmt) (t : TS) (w : WS) : Prop where
  ps : PSs X sts t
  de : DenS z t w
section
variable {z : Zn} {X : Cx} {st : Stmt} {rest body orelse : List Stmt} {e a b c : Expr} {t u tb tu : TS} {w v wb : WS} {te ta : TE} {we wa : WE} {pos p : Pos}
@[simp] def wNext : WS := fun P en => P.nx en
@[simp] def wSeq (w v : WS) : WS := fun P en => w { P with nx := fun en' => v P en' } en
theorem den_next : DenS z tNext wNext := fun B F0 σ H F en D P s g hw k => k.nx σ H F en s g hw
theorem den_seq (h : DenS z t w) (h' : DenS z u v) : DenS z (tSeq t u) (wSeq w v) := fun B F0 σ H F en D P s g hw k =>
  h B F0 σ H F en { D with nx := u D } { P with nx := fun en' => v P en' } s g hw ⟨fun σ' H' F' en' s' g' q => h' B F0 σ' H' F' en' D P s' g' q k, k.rt, k.bk, k.ct⟩
theorem jss_nil : JSs z X [] tNext wNext := ⟨pss_nil, den_next⟩
theorem jss_cons (h : JS z X st t w) (h' : JSs z X rest u v) : JSs z X (st :: rest) (tSeq t u) (wSeq w v) := ⟨pss_cons h.ps h'.ps, den_seq h.de h'.de⟩
theorem jss_one (h : JS z X st t w) : JSs z X [st] t w := ⟨pss_one h.ps, h.de⟩
@[simp] def wRet (w : WE) : WS := fun P en => w en P.rt
theorem den_ret (h : Den z te we) : DenS z (tRet te) (wRet we) := fun B F0 σ H F en D P s g hw k =>
  h B σ H F en s _ _ hw fun v H1 F1 d n1 g1 s1 r1 q1 => k.rt v H1 F1 d n1 (g.trans g1) s1 r1 q1
theorem js_ret (h : JE z X e te we) : JS z X (.Return (some e) pos) (tRet te) (wRet we) := ⟨ps_ret h.pe, den_ret h.de⟩
@[simp] def wRetN : WS := fun P en => P.rt .none en.n
theorem js_retN : JS z X (.Return none pos) tRetN wRetN := ⟨ps_retN, fun B F0 σ H F en D P s g hw k => k.rt _ H F _ en.n g s.stm .non hw⟩
@[simp] def wIfS (w : WT) (v u : WS) : WS := fun P en => w en fun b n => if b = true then v P ⟨en.s, n⟩ else u P ⟨en.s, n⟩
theorem den_ifS {tc : TT} {wc : WT} (hc : DenT z tc wc) (ha : DenS z t w) (hb : DenS z u v) : DenS z (tIfS tc t u) (wIfS wc w v) := fun B F0 σ H F en D P s g hw k => by
  refine hc B σ H F en s _ _ hw fun b H1 F1 n1 g1 s1 q1 => ?_
  cases b with
  | true => exact iteT (ha B F0 σ H1 F1 _ D P (s.grow g1 s1) (g.trans g1) (by simpa using q1) k)
  | false => exact iteF (hb B F0 σ H1 F1 _ D P (s.grow g1 s1) (g.trans g1) (by simpa using q1) k)
theorem js_if {tc : TT} {wc : WT} (hc : JT z X c tc wc) (ha : JSs z X body t w) (hb : JSs z X orelse u v) : JS z X (.If c body orelse pos) (tIfS tc t u) (wIfS wc w v) := ⟨ps_if hc.pt ha.ps hb.ps, den_ifS hc.de ha.de hb.de⟩
@[simp] def wDrop (w : WE) : WS := fun P en => w en fun _ n => P.nx ⟨en.s, n⟩
theorem den_drop (h : Den z te we) : DenS z (tDrop te) (wDrop we) := fun B F0 σ H F en D P s g hw k =>
  h B σ H F en s _ _ hw fun v H1 F1 d n1 g1 s1 r1 q1 => k.nx σ H1 F1 _ (s.grow g1 s1) (g.trans g1) q1
theorem js_expr (h : JE z X e te we) (hs : swapsWith e none pos.line X.env = pure false := by rfl) : JS z X (.Expr e pos) (tDrop te) (wDrop we) := ⟨ps_expr h.pe hs, den_drop h.de⟩
@[simp] def wAsg (w : WE) (wg : En → PyData → (En → Prop) → Prop) : WS := fun P en => w en fun d n => wg ⟨en.s, n⟩ d P.nx
theorem den_asg {g : TG} {js : List Nat} {wg : En → PyData → (En → Prop) → Prop} (h : Den z te we) (hg : DenG z g js wg) : DenS z (tAsg te g) (wAsg we wg) := fun B F0 σ H F en D P s g0 hw k =>
  h B σ H F en s _ _ hw fun v H1 F1 d n1 g1 s1 r1 q1 => hg B σ H1 F1 _ v d (s.grow g1 s1) r1 _ _ q1 fun σ' en' s' _ q' => k.nx σ' H1 F1 en' s' (g0.trans g1) q'
theorem js_asg {tg : Expr} {g : TG} {js : List Nat} {wg : En → PyData → (En → Prop) → Prop} (h : JE z X e te we) (hg : JG z X tg g js wg) (hs : swapsWithSole [tg] e pos.line X.env = pure false := by rfl) (hw : swappedStores [tg] e X.env = pure none := by rfl)
    (h1 : (assignEach [tg] X.env).map (·.2) = [assign tg X.env] := by rfl) : JS z X (.Assign [tg] e pos) (tAsg te g) (wAsg we wg) := ⟨ps_asg h.pe hg.pg hs hw h1, den_asg h.de hg.de⟩
/-- x = a fresh list, to be the def's own -/
@[simp] def wAsgL (w : WA) (i : Nat) : WS := fun P en => w en fun ds n => P.nx ⟨en.s.set i (.own ds), n⟩
theorem den_asgL {wl : WA} {i : Nat} (h : DenL z te wl) : DenS z (tAsg te (gName i)) (wAsgL wl i) := fun B F0 σ H F en D P s g0 hw k =>
  h B σ H F en s _ _ hw fun l xs H1 F1 ds n1 g1 s1 hl hf hx r1 q1 => by
    have s2 := s.grow g1 s1
    refine k.nx _ H1 F1 _ (s2.setOwn i hf (fun q => s.stm.there q hl) hx r1 (g0.dom l hl) fun j b hj e ob q => s.ownAt e ob q hl) (g0.trans g1) q1
theorem js_asgL {x : Str} {pos' : Pos} {wl : WA} (i : Nat) (hN : X.N.Nodup) (hi : X.N[i]? = some x) (hx : Loc X.env.scope x) (h : JL z X e te wl) (hs : swapsWith e (some (.Name x pos')) pos.line X.env = pure false := by rfl)
    (hf : X.fn x = true ∨ X.env.scope.names.lookup x = some .local := by first | exact .inl rfl | exact .inr rfl | assumption) : JS z X (.Assign [.Name x pos'] e pos) (tAsg te (gName i)) (wAsgL wl i) := ⟨ps_set hN hi hx h.pe hs hf, den_asgL h.de⟩
/-- y = [.. for ..]: own, or a value -/
theorem js_setLc {y : Str} {py : Pos} {elt tg iter : Expr} {ifs : List Expr} {scope : Scope} {spos : Pos} {wi : TI} {g : TG} {tt : TT} {te : TE} {ws : WA} {js : List Nat} {wg : En → PyData → (En → Prop) → Prop} {wt : WT} {we : WE} (i : Nat) (own : List (Str × Nat)) (hN : X.N.Nodup) (hy : X.N[i]? = some y) (hyl : X.env.scope.names.lookup y = some .local)
    (hsw : swapsWith (.ListComp elt [⟨tg, iter, ifs, 0⟩] scope pos) (some (.Name y py)) spos.line X.env = pure true) (hi : JI z X tg iter wi ws) (ok : blkC X.N X.env.scope scope own = true)
    (hg : ∀ (s : Shared) (H : Hp) (C : Addr) (cl : List (Str × Addr)) (fp : List Addr), JG z (X.blk s H scope (compEnvC scope cl C X.env) fp) tg g js wg) (ht : ∀ (s : Shared) (H : Hp) (C : Addr) (cl : List (Str × Addr)) (fp : List Addr), JTs z (X.blk s H scope (compEnvC scope cl C X.env) fp) ifs tt wt)
    (he : ∀ (s : Shared) (H : Hp) (C : Addr) (cl : List (Str × Addr)) (fp : List Addr), JE z (X.blk s H scope (compEnvC scope cl C X.env) fp) elt te we) (hc : X.calm = true := by rfl) (hj : ∀ j ∈ js, j ∈ own.map (·.2) := by decide)
    (hs : ∀ x, foldedSetIterable iter X.env x = pure x := by intro _; rfl) :
    JS z X (.Assign [.Name y py] (.ListComp elt [⟨tg, iter, ifs, 0⟩] scope pos) spos) (tAsg (tLc wi g tt te (own.map (·.2))) (gName i)) (wAsgL (wLc ws wg wt we (own.map (·.2))) i) where
  ps := ps_setLc hc hN hy hyl hsw hi.pi (blkOk_by ok) (fun s H C cl fp => (hg s H C cl fp).pg) (fun s H C cl fp => (ht s H C cl fp).pts) (fun s H C cl fp => (he s H C cl fp).pe) hs
  de := den_asgL (jl_lc own hN hi ok hg ht he hc hj hs (pos := pos)).de
/-- an own list is frozen -/
@[simp] def wFrz (i : Nat) (w : WS) : WS := fun P en => ∃ ds, en.s[i]? = some (.own ds) ∧ w P ⟨en.s.set i (.val (.list ds)), en.n⟩
theorem den_frz (i : Nat) (h : DenS z t w) : DenS z t (wFrz i w) := fun B F0 σ H F en D P s g hw k => by
  obtain ⟨ds, h1, h2⟩ := hw
  obtain ⟨l, xs, e1, e2, e3, e4, e5, s'⟩ := s.borrow h1
  obtain ⟨o, q1, l', xs', q2, q3, q4, q5, q6, q7⟩ := s.slot i _ h1
  rw [e1] at q1
  cases q1
  cases q2
  exact h B F0 σ H _ _ D P s' (g.freeze q7 e4 e2) h2 k
theorem jss_frz (i : Nat) (h : JSs z X rest t w) : JSs z X rest t (wFrz i w) := ⟨h.ps, den_frz i h.de⟩
/-- x.append(e) -/
@[simp] def wApp (i : Nat) (w : WE) : WS := fun P en => ∃ ds, en.s[i]? = some (.own ds) ∧ w en fun d n => ds.length < 100000 ∧ P.nx ⟨en.s.set i (.own (ds ++ [d])), n⟩
theorem Sit.own {B : Hp} {σ : L2.St} {H F : Hp} {en : En} {i : Nat} {ds : List PyData} (s : Sit z B σ H F en) (h : en.s[i]? = some (.own ds)) :
    ∃ l xs, σ[i]? = some (some (.ref l)) ∧ F l = none ∧ ¬ Zv z l ∧ H l = some (.lst xs) ∧ RpA F xs ds ∧ B l = none := by
  obtain ⟨o, h1, l, xs, rfl, h2, h3, h4, h5, h6⟩ := s.slot i _ h
  exact ⟨l, xs, h1, h2, h3, h4, h5, h6⟩
/-- an own list is changed -/
theorem Sit.reown {B : Hp} {σ : L2.St} {H F : Hp} {en : En} {i : Nat} {ds es : List PyData} {l : Addr} {ys : List V} (s : Sit z B σ H F en) (h : en.s[i]? = some (.own ds)) (hl : σ[i]? = some (some (.ref l))) (r : RpA F ys es) :
    Sit z B σ (L2.upd H l (.lst ys)) F ⟨en.s.set i (.own es), en.n⟩ := by
  obtain ⟨l', xs, e1, e2, e3, e4, e5, e6⟩ := s.own h
  rw [hl] at e1
  cases e1
  exact s.rewrite h rfl rfl hl e2 e3 ⟨l, ys, rfl, e2, e3, upd_same, r, e6⟩
theorem Grow.wroteO {F0 B F H : Hp} {l : Addr} {o : HO} (g : Grow z F0 B F H) (hB : B l = none) (hF : F l = none) : Grow z F0 B F (L2.upd H l o) where
  keep := fun b o nz h => by rw [upd_ne (ne_of_none h hB)]; exact g.keep b o nz h
  dom := fun b h => by
    by_cases hb : b = l
    · subst hb; exact hB
    · rw [upd_ne hb] at h; exact g.dom b h
  ext := g.ext
  sub := fun b u h => by rw [upd_ne (ne_of_none h hF)]; exact g.sub b u h
  new := g.new
theorem Grow.wrote {F0 B F H : Hp} {l : Addr} {xs ys : List V} (g : Grow z F0 B F H) (hB : B l = none) (hF : F l = none) : Grow z F0 B F (L2.upd H l (.lst ys)) := g.wroteO hB hF
theorem den_app {K : PySem.W.Frag} {i : Nat} (h : Den z te we) : DenS z (tDrop (tBM K "list" rAppend (tVar i) (tCons te tNil))) (wApp i we) := fun B F0 σ H F en D P s g hw k => by
  obtain ⟨ds, h1, h2⟩ := hw
  obtain ⟨l, xs, e1, e2, e3, e4, e5, e6⟩ := s.own h1
  refine ⟨.ref l, e1, .inl ⟨rfl, _, SqL.of e4⟩, ?_⟩
  refine h B σ H F en s _ _ h2 fun v H1 F1 d n1 g1 s1 r1 q1 => ?_
  obtain ⟨hl, q⟩ := q1
  have e4' : H1 l = some (.lst xs) := g1.keep l _ e3 e4
  have s2 := s.grow g1 s1
  refine ⟨l, xs, v, rfl, rfl, e4', Evl.sz_lt (by rw [e5.length]; exact hl), ?_⟩
  have e2' : F1 l = none := g1.apart e4 e3 (fun _ q => nomatch q) e2
  exact k.nx σ _ F1 _ (s2.reown h1 e1 ((e5.mono g1.ext).append (.one r1))) ((g.trans g1).wrote (xs := xs) e6 e2') q
theorem js_app {x : Str} {p0 p1 p2 p3 : Pos} (i : Nat) (h : JE z X e te we) (hN : X.N[i]? = some x := by rfl) (hv : Vis X.env.scope x := by first | exact Or.inl rfl | exact Or.inr (Or.inl rfl) | exact Or.inr (Or.inr rfl)) (hd : (x == ("__debug__" : Str)) = false := by decide)
    (hcd : (x == ("__classdict__" : Str)) = false := by decide)
    (hbase : attributeBase (.Name x p0) "append" X.env (eval (.Name x p0) X.env) = eval (.Name x p0) X.env := by rfl)
    (hfew : ((backTo p2 (starEach [e] X.env)).all (fun x => !x.1) && (backToKw p2 (keywordEach [] X.env)).all (fun x => x.1.isSome)
      && decide ([e].length + ([] : List Keyword).length + (if ([] : List Keyword).isEmpty then 0 else 1) < 30)) = true := by rfl)
    (hline : (p1.endLine == p2.line) = true := by rfl)
    (he : starEach [e] X.env = (false, eval e X.env) :: starEach [] X.env := by rfl) (hpl : (backTo p2 (starEach [] X.env)).any (·.1) = false := by rfl)
    (hs : swapsWith (.Call (.Attribute (.Name x p0) "append" p1) [e] [] p2) none p3.line X.env = pure false := by rfl) :
    JS z X (.Expr (.Call (.Attribute (.Name x p0) "append" p1) [e] [] p2) p3) (tDrop (tBM X.K "list" rAppend (tVar i) (tCons te tNil))) (wApp i we) where
  ps := ps_expr (pe_bm PySem.F.plainAttrs_list PySem.F.slot_list_append PySem.F.type_list_append mt_append (pv i hN hv hd hcd) (pa_cons h.pe pa_nil he) hbase hfew hline he hpl) hs
  de := den_app h.de
end
end DD
/-! The Deep layer, 6: loops, more statements, calls, defs. -/
namespace DD
open PySem PySem.Spec PyProof.Rows L2
open Evl (Ex)
theorem Grow.based {z : Zn} {F0 B F1 H1 F' H' : Hp} (g : Grow z F0 B F1 H1) (g' : Grow z F1 B F' H') : Grow z F0 B F' H' where
  keep := g'.keep
  dom := g'.dom
  ext := g.ext.trans g'.ext
  sub := g'.sub
  new := fun b h1 h2 => (g.new b h1 h2).elim (fun q => g'.new b h1 q) fun ⟨xs, q⟩ => .inr ⟨xs, g'.ext b _ q⟩
theorem Grow.base {z : Zn} {F0 B F1 H1 : Hp} (g : Grow z F0 B F1 H1) : Grow z F1 B F1 H1 where
  keep := g.keep
  dom := g.dom
  ext := Evl.Ex.refl F1
  sub := g.sub
  new := fun _ _ h => .inl h
section
variable {z : Zn} {X : Cx} {st : Stmt} {rest body orelse : List Stmt} {e a b c : Expr} {t u tb tu : TS} {w v wb : WS} {te ta : TE} {we wa : WE} {pos p : Pos}
def wFor (ws : WA) (wg : En → PyData → (En → Prop) → Prop) (wb : WS) : WS := fun P en => ws en fun ds n => ∃ I : Nat → En → Prop, I 0 ⟨en.s, n⟩ ∧
  (∀ (k : Nat) (d : PyData) (en' : En), ds[k]? = some d → I k en' → wg en' d fun en2 => wb { nx := I (k + 1), ct := I (k + 1), bk := P.nx, rt := P.rt } en2) ∧ ∀ en', I ds.length en' → P.nx en'
theorem den_for {wi : TI} {g : TG} {ws : WA} {js : List Nat} {wg : En → PyData → (En → Prop) → Prop} (hi : DenI z wi ws) (hg : DenG z g js wg) (hb : DenS z tb wb) : DenS z (tFor wi g tb) (wFor ws wg wb) := by
  intro B F0 σ H F en D P s g0 hw k
  refine hi B σ H F en s _ _ hw fun J H1 F1 ds n1 g1 s1 y1 q1 => ?_
  obtain ⟨I, i0, turn, fin⟩ := q1
  have G1 : Grow z F0 B F1 H1 := g0.trans g1
  refine ⟨fun i m σ' H' => m = ds.length - i ∧ i ≤ ds.length ∧ ∃ F' en', Sit z B σ' H' F' en' ∧ Grow z F1 B F' H' ∧ I i en', ⟨ds.length, rfl, Nat.zero_le _, F1, _, s.grow g1 s1, G1.base, i0⟩, ?_⟩
  rintro i m σ2 H2 ⟨rfl, hle, F2, en2, s2, g2, i2⟩
  by_cases hlt : i < ds.length
  · refine .inr ⟨y1.go i H2 (g2.ext.trans g2.sub) hlt, fun σ' H' => ∃ F' en', Sit z B σ' H' F' en' ∧ Grow z F1 B F' H' ∧ I (i + 1) en', fun σ' H' p => ⟨ds.length - (i + 1), by omega, rfl, hlt, p⟩, fun x H3 hy => ?_⟩
    obtain ⟨F3, g3, r3⟩ := y1.yld i x F2 H2 H3 g2.ext g2.sub hy ds[i] (by simp)
    have s3 : Sit z B σ2 H3 F3 en2 := s2.grow (n' := en2.n) g3.weak (s2.stm.ex g3.ex)
    have g23 : Grow z F1 B F3 H3 := g2.trans g3.weak
    refine hg B _ H3 F3 _ x ds[i] s3 r3 _ _ (turn i ds[i] en2 (by simp) i2) fun σ4 en4 s4 _ q4 => ?_
    refine hb B F1 σ4 H3 F3 en4 _ _ s4 g23 q4 ⟨fun σ' H' F' en' s' g' q' => ⟨F', en', s', g', q'⟩, fun v H' F' d n g' st' r' q' => k.rt v H' F' d n (G1.based g') st' r' q', fun σ' H' F' en' s' g' q' => k.nx σ' H' F' en' s' (G1.based g') q', fun σ' H' F' en' s' g' q' => ⟨F', en', s', g', q'⟩⟩
  · have e : i = ds.length := by omega
    subst e
    exact .inl ⟨y1.stop _ H2 (g2.ext.trans g2.sub) (Nat.le_refl _), k.nx σ2 H2 F2 en2 s2 (G1.based g2) (fin _ i2)⟩
theorem js_for {tg iter : Expr} {wi : TI} {g : TG} {ws : WA} {js : List Nat} {wg : En → PyData → (En → Prop) → Prop} (hp : PassesOwn (model X.prog X.w) X.A X.env X.xe) (hi : JI z X tg iter wi ws) (hg : JG z X tg g js wg) (hb : JSs z X body tb wb) (hc : X.calm = true := by rfl)
    (hs : ∀ x, foldedSetIterable iter X.env x = pure x := by intro _; rfl) : JS z X (.For tg iter body [] pos) (tFor wi g tb) (wFor ws wg wb) := ⟨ps_for hp hc hi.pi hg.pg hb.ps hs, den_for hi.de hg.de hb.de⟩
def wWhile (wt : WT) (wb : WS) : WS := fun P en => ∃ I : Nat → En → Prop, (∃ m, I m en) ∧ ∀ (m : Nat) (en' : En), I m en' → wt en' fun b n => if b = true then wb { nx := fun e2 => ∃ m', m' < m ∧ I m' e2, ct := fun e2 => ∃ m', m' < m ∧ I m' e2, bk := P.nx, rt := P.rt } ⟨en'.s, n⟩ else P.nx ⟨en'.s, n⟩
theorem den_while {tc : TT} {wt : WT} (hc : DenT z tc wt) (hb : DenS z tb wb) : DenS z (tWhile tc tb) (wWhile wt wb) := by
  intro B F0 σ H F en D P s g0 hw k
  obtain ⟨I, ⟨m0, i0⟩, turn⟩ := hw
  refine ⟨fun m σ' H' => ∃ F' en', Sit z B σ' H' F' en' ∧ Grow z F0 B F' H' ∧ I m en', ⟨m0, F, en, s, g0, i0⟩, ?_⟩
  rintro m σ2 H2 ⟨F2, en2, s2, g2, i2⟩
  refine hc B σ2 H2 F2 en2 s2 _ _ (turn m en2 i2) fun b H3 F3 n3 g3 s3 q3 => ?_
  cases b with
  | false => exact iteF (k.nx σ2 H3 F3 _ (s2.grow g3 s3) (g2.trans g3) (by simpa using q3))
  | true =>
    refine iteT ⟨fun σ' H' => ∃ m', m' < m ∧ ∃ F' en', Sit z B σ' H' F' en' ∧ Grow z F0 B F' H' ∧ I m' en', fun σ' H' p => p, ?_⟩
    have q3' : wb { nx := fun e2 => ∃ m', m' < m ∧ I m' e2, ct := fun e2 => ∃ m', m' < m ∧ I m' e2, bk := P.nx, rt := P.rt } ⟨en2.s, n3⟩ := by simpa using q3
    exact hb B F0 σ2 H3 F3 _ _ _ (s2.grow g3 s3) (g2.trans g3) q3' ⟨fun σ' H' F' en' s' g' ⟨m', h1, h2⟩ => ⟨m', h1, F', en', s', g', h2⟩, k.rt, k.nx, fun σ' H' F' en' s' g' ⟨m', h1, h2⟩ => ⟨m', h1, F', en', s', g', h2⟩⟩
theorem js_while {tc : TT} {wt : WT} (hp : PassesOwn (model X.prog X.w) X.A X.env X.xe) (hc : JT z X c tc wt) (hb : JSs z X body tb wb) : JS z X (.While c body [] pos) (tWhile tc tb) (wWhile wt wb) := ⟨ps_while hp hc.pt hb.ps, den_while hc.de hb.de⟩
@[simp] def wBreak : WS := fun P en => P.bk en
@[simp] def wCont : WS := fun P en => P.ct en
theorem js_break : JS z X (.Break pos) tBreak wBreak := ⟨ps_break, fun B F0 σ H F en D P s g hw k => k.bk σ H F en s g hw⟩
theorem js_continue : JS z X (.Continue pos) tCont wCont := ⟨ps_continue, fun B F0 σ H F en D P s g hw k => k.ct σ H F en s g hw⟩
theorem js_pass : JS z X (.Pass pos) tNext wNext := ⟨ps_pass, den_next⟩
/-- x += e, ints -/
@[simp] def wAug (f : Int → Int → Int) (i : Nat) (w : WE) : WS := fun P en => ∃ x, en.s[i]? = some (.val (.int x)) ∧ w en fun d n => ∃ y, d = .int y ∧ P.nx ⟨en.s.set i (.val (.int (f x y))), n⟩
theorem den_aug {f : Int → Int → Int} {i : Nat} (h : Den z te we) : DenS z (tAug i te (ipI f)) (wAug f i we) := fun B F0 σ H F en D P s g0 hw k => by
  obtain ⟨x, h1, h2⟩ := hw
  obtain ⟨o, e1, v, rfl, r⟩ := s.slot i _ h1
  cases r
  refine ⟨.int x, e1, h B σ H F en s _ _ h2 fun v H1 F1 d n1 g1 s1 r1 q1 => ?_⟩
  obtain ⟨y, rfl, q⟩ := q1
  cases r1
  exact ⟨x, y, rfl, rfl, k.nx _ H1 F1 _ ((s.grow g1 s1).set i (.int (f x y))) (g0.trans g1) q⟩
/-- a, b = e1, e2 -/
@[simp] def wPar (i j : Nat) (w : WA) : WS := fun P en => w en fun ds n => ∃ d e, ds = [d, e] ∧ P.nx ⟨(en.s.set i (.val d)).set j (.val e), n⟩
theorem den_par {i j : Nat} {ta : TA} {w : WA} (h : DenA z ta w) : DenS z (tPar i j ta) (wPar i j w) := fun B F0 σ H F en D P s g0 hw k =>
  h B σ H F en s _ _ hw fun vs H1 F1 ds n1 g1 s1 r1 q1 => by
    obtain ⟨d, e, rfl, q⟩ := q1
    cases r1 with
    | cons r1 r2 =>
      cases r2 with
      | cons r2 r3 =>
        cases r3
        exact ⟨_, _, rfl, k.nx _ H1 F1 _ (((s.grow g1 s1).set i r1).set j r2) (g0.trans g1) q⟩
end

/-! ### calls and defs -/
abbrev PSp := List PyData → (PyData → Prop) → Prop
abbrev ZSp := List PyData → Nat → (PyData → Nat → Prop) → Prop
/-- the promise of a def that draws nothing -/
def spP (np : Nat) (sp : PSp) : Sp := fun vs H Q _ => vs.length = np ∧ ∃ F ds P, Ex F H ∧ RpA F vs ds ∧ sp ds P ∧ ∀ v H' F' d, Grow none F H F' H' → Rp F' v d → P d → Q v H'
/-- the promise of a def whose first argument is the stream -/
def spZ (np : Nat) (sp : ZSp) : Sp := fun vs H Q _ => vs.length = np + 1 ∧ ∃ st sl us F ds n P, vs = .ref st :: us ∧ Ex F H ∧ F st = none ∧ F sl = none ∧ Stm (some (st, sl)) n H ∧ RpA F us ds ∧ sp ds n P ∧
  ∀ v H' F' d n', Grow (some (st, sl)) F H F' H' → Stm (some (st, sl)) n' H' → Rp F' v d → P d n' → Q v H'
section
variable {z : Zn} {X : Cx} {e : Expr} {es : List Expr} {ta : TA} {wa : WA} {pos p p0 : Pos} {k np : Nat} {f : Addr} {fd : FuncData} {ps : List Str}
@[simp] def wCall (np : Nat) (sp : PSp) (w : WA) : WE := fun en P => w en fun ds n => ds.length = np ∧ sp ds fun d => P d n
theorem den_call {sp : PSp} (h : DenA z ta wa) : Den z (tCall (spP np sp) [] E0 ta) (wCall np sp wa) := fun B σ H F en s P Q hw kk =>
  h B σ H F en s _ _ hw fun vs H1 F1 ds n1 g1 s1 r1 q1 => by
    rw [List.append_nil]
    refine ⟨by rw [r1.length]; exact q1.1, F1, ds, _, g1.sub, r1, q1.2, fun v H2 F2 d g2 r2 q2 => ?_⟩
    exact kk v H2 F2 d n1 (g1.trans g2.weak) (s1.ex g2.ex) r2 q2
theorem je_call {x : Str} {sp : PSp} (G : FnOk X.prog X.w X.K X.mg X.base CX0 k f fd ps (spP np sp)) (hr : Room k X.A) (hm : X.mg x = some (.ref f)) (hk : PySem.W.keepIn X.K (.ref f) = true) (hb : Binds X.K fd ps []) (ha : JA z X (e :: es) ta wa) (hg : Gl X x := by rfl)
    (hdb : (x == ("__debug__" : Str)) = false := by decide) (he : starEach (e :: es) X.env = (false, eval e X.env) :: starEach es X.env := by rfl) (hpl : (backTo pos (starEach es X.env)).any (·.1) = false := by rfl) :
    JE z X (.Call (.Name x p) (e :: es) [] pos) (tCall (spP np sp) [] E0 ta) (wCall np sp wa) := ⟨pe_call G hr hg hm hk hb .nil pass0 ha.pa hdb he hpl, den_call ha.de⟩
@[simp] def wCallZ (i np : Nat) (sp : ZSp) (w : WA) : WE := fun en P => en.s[i]? = some .stm ∧ w en fun ds n => ds.length = np ∧ sp ds n P
theorem den_callZ {i : Nat} {sp : ZSp} (h : DenA z ta wa) : Den z (tCall (spZ np sp) [] E0 (tCons (tVar i) ta)) (wCallZ i np sp wa) := fun B σ H F en s P Q hw kk => by
  obtain ⟨h1, h2⟩ := hw
  obtain ⟨o, e1, st, sl, rfl, rfl⟩ := s.slot i _ h1
  refine ⟨.ref st, e1, ?_⟩
  refine h B σ H F en s _ _ h2 fun vs H1 F1 ds n1 g1 s1 r1 q1 => ?_
  show spZ np sp ((V.ref st :: vs) ++ []) H1 Q E0
  rw [List.append_nil]
  have o1 : ∀ b, Zv (some (st, sl)) b → F1 b = none := fun b hb => s1.off g1 hb (s.stm.there hb) (s.off b hb)
  refine ⟨by rw [List.length_cons, r1.length, q1.1], st, sl, vs, F1, ds, n1, _, rfl, g1.sub, o1 st (.inl rfl), o1 sl (.inr rfl), s1, r1, q1.2, fun v H2 F2 d n2 g2 s2 r2 q2 => ?_⟩
  exact kk v H2 F2 d n2 (g1.trans g2) s2 r2 q2
theorem je_callZ {x y : Str} {sp : ZSp} (i : Nat) (G : FnOk X.prog X.w X.K X.mg X.base CX0 k f fd ps (spZ np sp)) (hr : Room k X.A) (hm : X.mg x = some (.ref f)) (hk : PySem.W.keepIn X.K (.ref f) = true) (hb : Binds X.K fd ps []) (ha : JA z X es ta wa) (hg : Gl X x := by rfl)
    (hN : X.N[i]? = some y := by rfl) (hv : Vis X.env.scope y := by first | exact Or.inl rfl | exact Or.inr (Or.inl rfl) | exact Or.inr (Or.inr rfl)) (hd : (y == ("__debug__" : Str)) = false := by decide) (hcd : (y == ("__classdict__" : Str)) = false := by decide)
    (hdb : (x == ("__debug__" : Str)) = false := by decide) (he : starEach (.Name y p0 :: es) X.env = (false, eval (.Name y p0) X.env) :: starEach es X.env := by rfl) (hpl : (backTo pos (starEach es X.env)).any (·.1) = false := by rfl) :
    JE z X (.Call (.Name x p) (.Name y p0 :: es) [] pos) (tCall (spZ np sp) [] E0 (tCons (tVar i) ta)) (wCallZ i np sp wa) := ⟨pe_call G hr hg hm hk hb .nil pass0 (pa_cons (pe_var hN hv hd hcd) ha.pa he) hdb he hpl, den_callZ ha.de⟩
end
theorem SR.val {z : Zn} {B F H : Hp} {v : V} {d : PyData} (r : Rp F v d) : SR z B F H (some v) (.val d) := ⟨v, rfl, r⟩
/-- the slots at a def's entry -/
def startE (N : List Str) (ds : List PyData) : En := ⟨ds.map S.val ++ List.replicate (N.length - ds.length) .no, 0⟩
def startZ (N : List Str) (ds : List PyData) (n : Nat) : En := ⟨.stm :: (ds.map S.val ++ List.replicate (N.length - 1 - ds.length) .no), n⟩
theorem sit_vals {z : Zn} {B H F : Hp} {vs : List V} {ds : List PyData} {m n : Nat} (r : RpA F vs ds) (s : Stm z n H) (o : ∀ b, Zv z b → F b = none) (e : Ex F H) : Sit z B (vs.map some ++ List.replicate m none) H F ⟨ds.map S.val ++ List.replicate m .no, n⟩ where
  sub := e
  stm := s
  off := o
  len := by simp [r.length]
  slot := fun i x h => by
    have h : (ds.map S.val ++ List.replicate m .no)[i]? = some x := h
    by_cases hi : i < ds.length
    · rw [List.getElem?_append_left (by simpa using hi), List.getElem?_map] at h
      cases q : ds[i]? with
      | none => rw [q] at h; cases h
      | some d =>
        rw [q] at h
        cases h
        obtain ⟨v, h1, h2⟩ := r.get q
        refine ⟨some v, ?_, v, rfl, h2⟩
        rw [List.getElem?_append_left (by simpa [r.length] using hi), List.getElem?_map, h1]
        rfl
    · rw [List.getElem?_append_right (by simpa using Nat.le_of_not_lt hi), List.getElem?_replicate] at h
      split at h
      · cases h
        refine ⟨none, ?_, trivial⟩
        rw [List.getElem?_append_right (by simpa [r.length] using Nat.le_of_not_lt hi), List.getElem?_replicate]
        simp only [List.length_map, r.length] at *
        rw [if_pos (by assumption)]
      · cases h
  sep := fun i j es fs l _ h _ oe => by
    have h : (ds.map S.val ++ List.replicate m .no)[i]? = some es := h
    by_cases hi : i < ds.length
    · rw [List.getElem?_append_left (by simpa using hi), List.getElem?_map] at h
      cases q : ds[i]? with
      | none => rw [q] at h; cases h
      | some d => rw [q] at h; cases h; exact absurd oe Bool.false_ne_true
    · rw [List.getElem?_append_right (by simpa using Nat.le_of_not_lt hi), List.getElem?_replicate] at h
      split at h <;> cases h
      exact absurd oe Bool.false_ne_true
theorem sit_stm {st sl : Addr} {B H F : Hp} {σ : L2.St} {en : List S} {n : Nat} (s : Sit (some (st, sl)) B σ H F ⟨en, n⟩) : Sit (some (st, sl)) B (some (.ref st) :: σ) H F ⟨.stm :: en, n⟩ where
  sub := s.sub
  stm := s.stm
  off := s.off
  len := by simpa using s.len
  slot := fun i x h => by
    cases i with
    | zero => cases h; exact ⟨_, rfl, st, sl, rfl, rfl⟩
    | succ i => exact s.slot i x h
  sep := fun i j es fs l hij h1 h2 o1 o2 h3 => by
    cases i with
    | zero => cases h1; exact absurd o1 Bool.false_ne_true
    | succ i =>
      cases j with
      | zero => cases h2; exact absurd o2 Bool.false_ne_true
      | succ j => exact s.sep i j es fs l (fun q => hij (by rw [q])) h1 h2 o1 o2 h3
section
variable {P : Program} {w : World} {K : PySem.W.Frag} {mg : Str → Option Value} {base : Heap} {x qual : Str} {st : Stmt} {f : Addr} {fd : FuncData} {N ps : List Str} {k : Nat}
/-- THE RULE for a def that draws nothing -/
theorem fn_p {sp : PSp} (F : Fun K x qual st f fd) (S : FnScope N ps (defScope st))
    (hbody : ∀ (cdv : Value) (A : Around) (outer : List Env) (s : Shared) (H : Hp) (E : XK), Room k (A.deeper (envOfC qual (defScope st) s.heap.objs.size f cdv)) →
      ∃ t wb, JSs none (cxOf CX0 P w K mg base N qual (defScope st) f cdv A outer s H E).nox (defBody st) t wb ∧ ∀ ds Q, ds.length = ps.length → sp ds Q → wb { nx := fun _ => Q .none, rt := fun d _ => Q d } (startE N ds)) :
    FnOk P w K mg base CX0 (k + 1) f fd ps (spP ps.length sp) := by
  refine F.ok S (fun vs H Q E h => h.1) (fun cdv A outer s H vs Q E hr h => ?_)
  obtain ⟨hl, F0, ds, R, e, r, q, kk⟩ := h
  obtain ⟨t, wb, J, hwb⟩ := hbody cdv A outer s H E hr
  refine ⟨t, J.ps, ?_⟩
  have hs : Sit none H (L2.start N vs) H F0 (startE N ds) := by
    have := sit_vals (z := none) (B := H) (m := N.length - vs.length) (n := 0) r trivial (fun _ q => q.elim) e
    unfold L2.start startE
    rw [← r.length]
    exact this
  exact J.de H F0 (L2.start N vs) H F0 _ _ _ hs (Grow.refl e) (hwb ds R (by rw [← r.length]; exact hl) q) ⟨fun σ' H' F' en' s' g' q' => kk .non H' F' .none g' .non q', fun v H' F' d n g' _ r' q' => kk v H' F' d g' r' q', fun _ _ _ _ _ _ q => q.elim, fun _ _ _ _ _ _ q => q.elim⟩
/-- THE RULE for a def whose first parameter is the stream -/
theorem fn_z {np : Nat} {sp : ZSp} (F : Fun K x qual st f fd) (S : FnScope N ps (defScope st)) (hnp : ps.length = np + 1)
    (hbody : ∀ (z : Addr × Addr) (cdv : Value) (A : Around) (outer : List Env) (s : Shared) (H : Hp) (E : XK), Room k (A.deeper (envOfC qual (defScope st) s.heap.objs.size f cdv)) →
      ∃ t wb, JSs (some z) (cxOf CX0 P w K mg base N qual (defScope st) f cdv A outer s H E).nox (defBody st) t wb ∧ ∀ ds n Q, ds.length = np → sp ds n Q → wb { nx := fun en => Q .none en.n, rt := Q } (startZ N ds n)) :
    FnOk P w K mg base CX0 (k + 1) f fd ps (spZ np sp) := by
  refine F.ok S (fun vs H Q E h => h.1.trans hnp.symm) (fun cdv A outer s H vs Q E hr h => ?_)
  obtain ⟨hl, st', sl, us, F0, ds, n, R, rfl, e, o1, o2, hS, r, q, kk⟩ := h
  obtain ⟨t, wb, J, hwb⟩ := hbody (st', sl) cdv A outer s H E hr
  refine ⟨t, J.ps, ?_⟩
  have off : ∀ b, Zv (some (st', sl)) b → F0 b = none := fun b hb => by
    rcases hb with hb | hb
    · rw [hb]; exact o1
    · rw [hb]; exact o2
  have hs : Sit (some (st', sl)) H (L2.start N (.ref st' :: us)) H F0 (startZ N ds n) := by
    have := sit_stm (sit_vals (B := H) (m := N.length - 1 - us.length) (n := n) r hS off e)
    have e1 : N.length - (us.length + 1) = N.length - 1 - us.length := by omega
    unfold L2.start startZ
    rw [List.length_cons, e1, ← r.length]
    exact this
  have hl' : ds.length = np := by
    rw [← r.length]
    simpa using hl
  exact J.de H F0 _ H F0 _ _ _ hs (Grow.refl e) (hwb ds n R hl' q) ⟨fun σ' H' F' en' s' g' q' => kk .non H' F' .none en'.n g' s'.stm .non q', fun v H' F' d n g' st' r' q' => kk v H' F' d n g' st' r' q', fun _ _ _ _ _ _ q => q.elim, fun _ _ _ _ _ _ q => q.elim⟩
end
end DD
/-! The Deep layer, 7: defs by names, comparisons as tests, helpers. -/
namespace DD
open PySem PySem.Spec PyProof.Rows L2
open Evl (Ex)
/-- the built-in names that the texts use -/
def BI : List Str := ["isinstance", "list", "tuple", "int", "bool", "str", "dict", "len", "all", "any", "zip", "range", "sorted", "abs"]
/-- a def of the text, as the top has left it -/
structure DefT (K : PySem.W.Frag) (mg : Str → Option Value) (x : Str) (st : Stmt) (ps : List Str) : Prop where
  ex : ∃ f fd, Fun K x x st f fd ∧ mg x = some (.ref f) ∧ Binds K fd ps []
structure DefP (P : Program) (w : World) (K : PySem.W.Frag) (mg : Str → Option Value) (base : Heap) (k : Nat) (x : Str) (np : Nat) (sp : PSp) : Prop where
  ex : ∃ f fd ps, FnOk P w K mg base CX0 k f fd ps (spP np sp) ∧ mg x = some (.ref f) ∧ PySem.W.keepIn K (.ref f) = true ∧ Binds K fd ps []
structure DefZ (P : Program) (w : World) (K : PySem.W.Frag) (mg : Str → Option Value) (base : Heap) (k : Nat) (x : Str) (np : Nat) (sp : ZSp) : Prop where
  ex : ∃ f fd ps, FnOk P w K mg base CX0 k f fd ps (spZ np sp) ∧ mg x = some (.ref f) ∧ PySem.W.keepIn K (.ref f) = true ∧ Binds K fd ps []
section
variable {P : Program} {w : World} {K : PySem.W.Frag} {mg : Str → Option Value} {base : Heap} {x : Str} {st : Stmt} {N ps : List Str} {k : Nat}
theorem DefT.p {sp : PSp} (D : DefT K mg x st ps) (N : List Str) (S : FnScope N ps (defScope st))
    (hbody : ∀ (f : Addr) (cdv : Value) (A : Around) (outer : List Env) (s : Shared) (H : Hp) (E : XK), Room k (A.deeper (envOfC x (defScope st) s.heap.objs.size f cdv)) →
      ∃ t wb, JSs none (cxOf CX0 P w K mg base N x (defScope st) f cdv A outer s H E).nox (defBody st) t wb ∧ ∀ ds Q, ds.length = ps.length → sp ds Q → wb { nx := fun _ => Q .none, rt := fun d _ => Q d } (startE N ds)) :
    DefP P w K mg base (k + 1) x ps.length sp := by
  obtain ⟨f, fd, F, hm, hb⟩ := D.ex
  exact ⟨f, fd, ps, fn_p F S (hbody f), hm, F.kp, hb⟩
theorem DefT.z {np : Nat} {sp : ZSp} (D : DefT K mg x st ps) (N : List Str) (S : FnScope N ps (defScope st)) (hnp : ps.length = np + 1)
    (hbody : ∀ (f : Addr) (z : Addr × Addr) (cdv : Value) (A : Around) (outer : List Env) (s : Shared) (H : Hp) (E : XK), Room k (A.deeper (envOfC x (defScope st) s.heap.objs.size f cdv)) →
      ∃ t wb, JSs (some z) (cxOf CX0 P w K mg base N x (defScope st) f cdv A outer s H E).nox (defBody st) t wb ∧ ∀ ds n Q, ds.length = np → sp ds n Q → wb { nx := fun en => Q .none en.n, rt := Q } (startZ N ds n)) :
    DefZ P w K mg base (k + 1) x np sp := by
  obtain ⟨f, fd, F, hm, hb⟩ := D.ex
  exact ⟨f, fd, ps, fn_z F S hnp (hbody f), hm, F.kp, hb⟩
theorem DefT.none {np : Nat} (D : DefT K mg x st ps) (h : ps.length = np) : DefP P w K mg base 0 x np (fun _ _ => False) := by
  obtain ⟨f, fd, F, hm, hb⟩ := D.ex
  exact ⟨f, fd, ps, ⟨fun vs H Q E ⟨hl, _⟩ => hl.trans h.symm, fun A outer s H args us vs Q E hr e hb r ⟨_, _, _, _, _, _, z, _⟩ => z.elim⟩, hm, F.kp, hb⟩
theorem DefT.noneZ {np : Nat} (D : DefT K mg x st ps) (h : ps.length = np + 1) : DefZ P w K mg base 0 x np (fun _ _ _ => False) := by
  obtain ⟨f, fd, F, hm, hb⟩ := D.ex
  exact ⟨f, fd, ps, ⟨fun vs H Q E hh => hh.1.trans h.symm, fun A outer s H args us vs Q E hr e hb r ⟨_, _, _, _, _, _, _, _, _, _, _, _, _, _, z, _⟩ => z.elim⟩, hm, F.kp, hb⟩
theorem DefP.imp {np : Nat} {sp sp' : PSp} (D : DefP P w K mg base k x np sp) (h : ∀ ds Q, ds.length = np → sp' ds Q → sp ds Q) : DefP P w K mg base k x np sp' := by
  obtain ⟨f, fd, ps, F, r⟩ := D.ex
  exact ⟨f, fd, ps, F.imp fun vs H Q E ⟨hl, F0, ds, R, e, ra, q, kk⟩ => ⟨hl, F0, ds, R, e, ra, h ds R (by rw [← ra.length]; exact hl) q, kk⟩, r⟩
theorem DefP.mono {np j : Nat} {sp : PSp} (D : DefP P w K mg base j x np sp) (h : j ≤ k) : DefP P w K mg base k x np sp := by
  obtain ⟨f, fd, ps, F, r⟩ := D.ex
  exact ⟨f, fd, ps, F.mono h, r⟩
theorem DefZ.imp {np : Nat} {sp sp' : ZSp} (D : DefZ P w K mg base k x np sp) (h : ∀ ds n Q, ds.length = np → sp' ds n Q → sp ds n Q) : DefZ P w K mg base k x np sp' := by
  obtain ⟨f, fd, ps, F, r⟩ := D.ex
  refine ⟨f, fd, ps, F.imp fun vs H Q E h' => ?_, r⟩
  obtain ⟨hl, st', sl, us, F0, ds, n, R, rfl, e, o1, o2, hS, ra, q, kk⟩ := h'
  exact ⟨hl, st', sl, us, F0, ds, n, R, rfl, e, o1, o2, hS, ra, h ds n R (by rw [← ra.length]; simpa using hl) q, kk⟩
theorem DefZ.mono {np j : Nat} {sp : ZSp} (D : DefZ P w K mg base j x np sp) (h : j ≤ k) : DefZ P w K mg base k x np sp := by
  obtain ⟨f, fd, ps, F, r⟩ := D.ex
  exact ⟨f, fd, ps, F.mono h, r⟩
end
section
variable {z : Zn} {X : Cx} {e a b : Expr} {es : List Expr} {t ta' tb : TE} {ta : TA} {wa : WA} {we wx : WE} {pos p p0 : Pos} {k j np : Nat}
theorem jt_b_den {t : TE} {w : WE} (h : Den z t w) : DenT z (tB t) (wB w) := fun B σ H F en s P Q hw k => by
  refine h B σ H F en s _ _ hw fun v H1 F1 d n1 g1 s1 r1 q1 => ?_
  obtain ⟨b, rfl, q⟩ := q1
  cases r1
  exact ⟨b, rfl, k b H1 F1 n1 g1 s1 q⟩
theorem je_f {x : Str} {sp : PSp} (D : DefP X.prog X.w X.K X.mg X.base j x np sp) (hr : Room k X.A) (ha : JA z X (e :: es) ta wa) (hk : j ≤ k := by first | decide | omega) (hg : Gl X x := by rfl)
    (hdb : (x == ("__debug__" : Str)) = false := by decide) (he : starEach (e :: es) X.env = (false, eval e X.env) :: starEach es X.env := by rfl) (hpl : (backTo pos (starEach es X.env)).any (·.1) = false := by rfl) :
    JE z X (.Call (.Name x p) (e :: es) [] pos) (tCall (spP np sp) [] E0 ta) (wCall np sp wa) := by
  obtain ⟨f, fd, ps, F, hm, hkp, hb⟩ := D.ex
  exact je_call F (hr.mono hk) hm hkp hb ha hg hdb he hpl
theorem je_z {x y : Str} {sp : ZSp} (i : Nat) (D : DefZ X.prog X.w X.K X.mg X.base j x np sp) (hr : Room k X.A) (ha : JA z X es ta wa) (hk : j ≤ k := by first | decide | omega) (hg : Gl X x := by rfl)
    (hN : X.N[i]? = some y := by rfl) (hv : Vis X.env.scope y := by first | exact Or.inl rfl | exact Or.inr (Or.inl rfl) | exact Or.inr (Or.inr rfl)) (hd : (y == ("__debug__" : Str)) = false := by decide) (hcd : (y == ("__classdict__" : Str)) = false := by decide)
    (hdb : (x == ("__debug__" : Str)) = false := by decide) (he : starEach (.Name y p0 :: es) X.env = (false, eval (.Name y p0) X.env) :: starEach es X.env := by rfl) (hpl : (backTo pos (starEach es X.env)).any (·.1) = false := by rfl) :
    JE z X (.Call (.Name x p) (.Name y p0 :: es) [] pos) (tCall (spZ np sp) [] E0 (tCons (tVar i) ta)) (wCallZ i np sp wa) := by
  obtain ⟨f, fd, ps, F, hm, hkp, hb⟩ := D.ex
  exact je_callZ i F (hr.mono hk) hm hkp hb ha hg hN hv hd hcd hdb he hpl
/-- a comparison, as a value and as a test -/
structure JC (z : Zn) (X : Cx) (op : CmpOp) (r : R2) (f : PyData → PyData → (PyData → Prop) → Prop) : Prop where
  op : OpR X (compareOp op) r
  de : DenR z r f
theorem jc_v {op : CmpOp} {r : R2} {f : PyData → PyData → (PyData → Prop) → Prop} (c : JC z X op r f) (ha : JE z X a ta' we) (hb : JE z X b tb wx) (hm : behindInMarks op b = false := by first | exact nomark _ | rfl) : JE z X (.Compare a [op] [b] pos) (tOp r ta' tb) (wOp f we wx) := je_cmp c.op c.de ha hb hm
theorem jc_t {op : CmpOp} {r : R2} {f : PyData → PyData → (PyData → Prop) → Prop} (c : JC z X op r f) (ha : JE z X a ta' we) (hb : JE z X b tb wx) (hm : behindInMarks op b = false := by first | exact nomark _ | rfl) : JT z X (.Compare a [op] [b] pos) (tTest (tOp r ta' tb)) (wB (wOp f we wx)) where
  pt := pt_cmpR c.op ha.pe hb.pe hm
  de := (jt_b_den (den_op c.de ha.de hb.de))
theorem c_eq (hr : Room k X.A) : JC z X .Eq (kR rEqD) fEq := ⟨kR_ok (op_eqD hr.units), den_eq⟩
theorem c_ne (hr : Room k X.A) : JC z X .NotEq (kR rNeD) fNe := ⟨kR_ok (op_neD hr.units), den_ne⟩
theorem c_in (hr : Room k X.A) : JC z X .In (kR rInD) fIn := ⟨kR_ok (op_inD (units65 hr)), den_in⟩
theorem c_notIn (hr : Room k X.A) : JC z X .NotIn (kR rNotInD) fNotIn := ⟨kR_ok (op_notInD (units65 hr)), den_notIn⟩
theorem c_lt : JC z X .Lt (rI0 fun i j => .bl (decide (i < j))) (fI0 fun i j => .bool (decide (i < j))) := ⟨op_lt, den_I0 fun _ _ _ => .bl _⟩
theorem c_le : JC z X .LtE (rI0 fun i j => .bl (decide (i ≤ j))) (fI0 fun i j => .bool (decide (i ≤ j))) := ⟨op_le, den_I0 fun _ _ _ => .bl _⟩
theorem c_gt : JC z X .Gt (rI0 fun i j => .bl (decide (j < i))) (fI0 fun i j => .bool (decide (j < i))) := ⟨op_gt, den_I0 fun _ _ _ => .bl _⟩
theorem c_ge : JC z X .GtE (rI0 fun i j => .bl (decide (j ≤ i))) (fI0 fun i j => .bool (decide (j ≤ i))) := ⟨op_ge, den_I0 fun _ _ _ => .bl _⟩
theorem jt_isN {jj} (ha : JE z X a ta' we) : JT z X (.Compare a [.Is] [.Constant .none jj p] pos) (tB (tIsN ta')) (wB (wIsN we)) where
  pt := pt_cmp (pc_isN ha.pe) rfl
  de := jt_b_den (je_isN (p := p) (pos := pos) (j := jj) ha).de
theorem jt_notN {jj} (ha : JE z X a ta' we) : JT z X (.Compare a [.IsNot] [.Constant .none jj p] pos) (tB (tNotN ta')) (wB (wNotN we)) where
  pt := pt_cmp (pc_notN ha.pe) rfl
  de := jt_b_den (je_notN (p := p) (pos := pos) (j := jj) ha).de
theorem je_isi_int (bi : ∀ x ∈ BI, X.mg x = none) (h : JE z X e t we) (g1 : Gl X "isinstance" := by rfl) (g2 : Gl X "int" := by rfl) (s2 : starEach [Expr.Name "int" p0] X.env = (false, eval (Expr.Name "int" p0) X.env) :: starEach [] X.env := by rfl)
    (s1 : starEach [e, Expr.Name "int" p0] X.env = (false, eval e X.env) :: starEach [Expr.Name "int" p0] X.env := by rfl) (hpl : (backTo pos (starEach [Expr.Name "int" p0] X.env)).any (·.1) = false := by rfl) :
    JE z X (.Call (.Name "isinstance" p) [e, .Name "int" p0] [] pos) (tCB (kC rIsi) (tCons t (tCons (tC (.ty "int")) tNil))) (wFun (fun d => .bool (isInt d)) we) := je_isi g1 (bi _ (by decide)) g2 (bi _ (by decide)) (by decide +kernel) kit_int h (by decide) (by decide) s2 s1 hpl
theorem je_isi_bool (bi : ∀ x ∈ BI, X.mg x = none) (h : JE z X e t we) (g1 : Gl X "isinstance" := by rfl) (g2 : Gl X "bool" := by rfl) (s2 : starEach [Expr.Name "bool" p0] X.env = (false, eval (Expr.Name "bool" p0) X.env) :: starEach [] X.env := by rfl)
    (s1 : starEach [e, Expr.Name "bool" p0] X.env = (false, eval e X.env) :: starEach [Expr.Name "bool" p0] X.env := by rfl) (hpl : (backTo pos (starEach [Expr.Name "bool" p0] X.env)).any (·.1) = false := by rfl) :
    JE z X (.Call (.Name "isinstance" p) [e, .Name "bool" p0] [] pos) (tCB (kC rIsi) (tCons t (tCons (tC (.ty "bool")) tNil))) (wFun (fun d => .bool (isBoo d)) we) := je_isi g1 (bi _ (by decide)) g2 (bi _ (by decide)) (by decide +kernel) kit_bool h (by decide) (by decide) s2 s1 hpl
theorem je_isi_str (bi : ∀ x ∈ BI, X.mg x = none) (h : JE z X e t we) (g1 : Gl X "isinstance" := by rfl) (g2 : Gl X "str" := by rfl) (s2 : starEach [Expr.Name "str" p0] X.env = (false, eval (Expr.Name "str" p0) X.env) :: starEach [] X.env := by rfl)
    (s1 : starEach [e, Expr.Name "str" p0] X.env = (false, eval e X.env) :: starEach [Expr.Name "str" p0] X.env := by rfl) (hpl : (backTo pos (starEach [Expr.Name "str" p0] X.env)).any (·.1) = false := by rfl) :
    JE z X (.Call (.Name "isinstance" p) [e, .Name "str" p0] [] pos) (tCB (kC rIsi) (tCons t (tCons (tC (.ty "str")) tNil))) (wFun (fun d => .bool (isStr d)) we) := je_isi g1 (bi _ (by decide)) g2 (bi _ (by decide)) (by decide +kernel) kit_str h (by decide) (by decide) s2 s1 hpl
theorem je_isi_list (bi : ∀ x ∈ BI, X.mg x = none) (h : JE z X e t we) (g1 : Gl X "isinstance" := by rfl) (g2 : Gl X "list" := by rfl) (s2 : starEach [Expr.Name "list" p0] X.env = (false, eval (Expr.Name "list" p0) X.env) :: starEach [] X.env := by rfl)
    (s1 : starEach [e, Expr.Name "list" p0] X.env = (false, eval e X.env) :: starEach [Expr.Name "list" p0] X.env := by rfl) (hpl : (backTo pos (starEach [Expr.Name "list" p0] X.env)).any (·.1) = false := by rfl) :
    JE z X (.Call (.Name "isinstance" p) [e, .Name "list" p0] [] pos) (tCB (kC rIsi) (tCons t (tCons (tC (.ty "list")) tNil))) (wFun (fun d => .bool (isLst d)) we) := je_isi g1 (bi _ (by decide)) g2 (bi _ (by decide)) (by decide +kernel) kit_list h (by decide) (by decide) s2 s1 hpl
theorem je_isi_tuple (bi : ∀ x ∈ BI, X.mg x = none) (h : JE z X e t we) (g1 : Gl X "isinstance" := by rfl) (g2 : Gl X "tuple" := by rfl) (s2 : starEach [Expr.Name "tuple" p0] X.env = (false, eval (Expr.Name "tuple" p0) X.env) :: starEach [] X.env := by rfl)
    (s1 : starEach [e, Expr.Name "tuple" p0] X.env = (false, eval e X.env) :: starEach [Expr.Name "tuple" p0] X.env := by rfl) (hpl : (backTo pos (starEach [Expr.Name "tuple" p0] X.env)).any (·.1) = false := by rfl) :
    JE z X (.Call (.Name "isinstance" p) [e, .Name "tuple" p0] [] pos) (tCB (kC rIsi) (tCons t (tCons (tC (.ty "tuple")) tNil))) (wFun (fun d => .bool (isTup d)) we) := je_isi g1 (bi _ (by decide)) g2 (bi _ (by decide)) (by decide +kernel) kit_tuple h (by decide) (by decide) s2 s1 hpl
theorem je_isi_dict (bi : ∀ x ∈ BI, X.mg x = none) (h : JE z X e t we) (g1 : Gl X "isinstance" := by rfl) (g2 : Gl X "dict" := by rfl) (s2 : starEach [Expr.Name "dict" p0] X.env = (false, eval (Expr.Name "dict" p0) X.env) :: starEach [] X.env := by rfl)
    (s1 : starEach [e, Expr.Name "dict" p0] X.env = (false, eval e X.env) :: starEach [Expr.Name "dict" p0] X.env := by rfl) (hpl : (backTo pos (starEach [Expr.Name "dict" p0] X.env)).any (·.1) = false := by rfl) :
    JE z X (.Call (.Name "isinstance" p) [e, .Name "dict" p0] [] pos) (tCB (kC rIsi) (tCons t (tCons (tC (.ty "dict")) tNil))) (wFun (fun d => .bool (isDic d)) we) := je_isi g1 (bi _ (by decide)) g2 (bi _ (by decide)) (by decide +kernel) kit_dict h (by decide) (by decide) s2 s1 hpl
theorem tr2 {T U : String} (σ : L2.St) (H : Hp) (Q : List V → Hp → Prop) (h : Q ([T, U].map V.ty) H) : tCons (tC (.ty T)) (tCons (tC (.ty U)) tNil) σ H Q := h
theorem tr3 {T U W : String} (σ : L2.St) (H : Hp) (Q : List V → Hp → Prop) (h : Q ([T, U, W].map V.ty) H) : tCons (tC (.ty T)) (tCons (tC (.ty U)) (tCons (tC (.ty W)) tNil)) σ H Q := h
theorem pe_ty {x : Str} {T : String} (hg : Gl X x) (hm : X.mg x = none) (hv : bootBuiltins x = some (.type T)) (hn : x ≠ "__name__" := by decide) (hd : (x == ("__debug__" : Str)) = false := by decide) : PE X (.Name x p) (tC (.ty T)) := pe_bltn hg hm hv (show RelV (.ty T) _ from rfl) hn hd
theorem je_isi_LT {p2 p3 tpos : Pos} {k1 : Nat} (bi : ∀ x ∈ BI, X.mg x = none) (h : JE z X e t we) (g1 : Gl X "isinstance" := by rfl) (g2 : Gl X "list" := by rfl) (g3 : Gl X "tuple" := by rfl)
    (s4 : starEach [Expr.Name "tuple" p3] X.env = (false, eval (Expr.Name "tuple" p3) X.env) :: starEach [] X.env := by rfl) (s3 : starEach [Expr.Name "list" p2, Expr.Name "tuple" p3] X.env = (false, eval (Expr.Name "list" p2) X.env) :: starEach [Expr.Name "tuple" p3] X.env := by rfl)
    (s2 : starEach [Expr.Tuple [.Name "list" p2, .Name "tuple" p3] k1 tpos] X.env = (false, eval (Expr.Tuple [.Name "list" p2, .Name "tuple" p3] k1 tpos) X.env) :: starEach [] X.env := by rfl)
    (s1 : starEach [e, Expr.Tuple [.Name "list" p2, .Name "tuple" p3] k1 tpos] X.env = (false, eval e X.env) :: starEach [Expr.Tuple [.Name "list" p2, .Name "tuple" p3] k1 tpos] X.env := by rfl) (hpl : (backTo pos (starEach [Expr.Tuple [.Name "list" p2, .Name "tuple" p3] k1 tpos] X.env)).any (·.1) = false := by rfl) :
    JE z X (.Call (.Name "isinstance" p) [e, .Tuple [.Name "list" p2, .Name "tuple" p3] k1 tpos] [] pos) (tCB (kC rIsiT) (tCons t (tCons (tTup (tCons (tC (.ty "list")) (tCons (tC (.ty "tuple")) tNil))) tNil))) (wFun (fun d => .bool (isSeq d)) we) :=
  je_isiT (Ts := ["list", "tuple"]) g1 (bi _ (by decide)) (pa_cons (pe_ty g2 (bi _ (by decide)) (by decide +kernel)) (pa_cons (pe_ty g3 (bi _ (by decide)) (by decide +kernel)) pa_nil s4) s3) tr2 kit_LT (by decide) h s2 s1 hpl
theorem je_isi_LTD {p2 p3 p4 tpos : Pos} {k1 : Nat} (bi : ∀ x ∈ BI, X.mg x = none) (h : JE z X e t we) (g1 : Gl X "isinstance" := by rfl) (g2 : Gl X "list" := by rfl) (g3 : Gl X "tuple" := by rfl) (g4 : Gl X "dict" := by rfl)
    (s5 : starEach [Expr.Name "dict" p4] X.env = (false, eval (Expr.Name "dict" p4) X.env) :: starEach [] X.env := by rfl) (s4 : starEach [Expr.Name "tuple" p3, .Name "dict" p4] X.env = (false, eval (Expr.Name "tuple" p3) X.env) :: starEach [Expr.Name "dict" p4] X.env := by rfl) (s3 : starEach [Expr.Name "list" p2, Expr.Name "tuple" p3, .Name "dict" p4] X.env = (false, eval (Expr.Name "list" p2) X.env) :: starEach [Expr.Name "tuple" p3, .Name "dict" p4] X.env := by rfl)
    (s2 : starEach [Expr.Tuple [.Name "list" p2, .Name "tuple" p3, .Name "dict" p4] k1 tpos] X.env = (false, eval (Expr.Tuple [.Name "list" p2, .Name "tuple" p3, .Name "dict" p4] k1 tpos) X.env) :: starEach [] X.env := by rfl)
    (s1 : starEach [e, Expr.Tuple [.Name "list" p2, .Name "tuple" p3, .Name "dict" p4] k1 tpos] X.env = (false, eval e X.env) :: starEach [Expr.Tuple [.Name "list" p2, .Name "tuple" p3, .Name "dict" p4] k1 tpos] X.env := by rfl) (hpl : (backTo pos (starEach [Expr.Tuple [.Name "list" p2, .Name "tuple" p3, .Name "dict" p4] k1 tpos] X.env)).any (·.1) = false := by rfl) :
    JE z X (.Call (.Name "isinstance" p) [e, .Tuple [.Name "list" p2, .Name "tuple" p3, .Name "dict" p4] k1 tpos] [] pos) (tCB (kC rIsiT) (tCons t (tCons (tTup (tCons (tC (.ty "list")) (tCons (tC (.ty "tuple")) (tCons (tC (.ty "dict")) tNil)))) tNil))) (wFun (fun d => .bool (isObjD d)) we) :=
  je_isiT (Ts := ["list", "tuple", "dict"]) g1 (bi _ (by decide)) (pa_cons (pe_ty g2 (bi _ (by decide)) (by decide +kernel)) (pa_cons (pe_ty g3 (bi _ (by decide)) (by decide +kernel)) (pa_cons (pe_ty g4 (bi _ (by decide)) (by decide +kernel)) pa_nil s5) s4) s3) tr3 kit_LTD (by decide) h s2 s1 hpl
end
end DD
/-! The Deep layer, 8: data compared by <, sorted, more statements. -/
namespace DD
open PySem PySem.Spec PyProof.Rows L2
open Evl (Ex)
open PySem.W (alike dataLt dataLe AllAlike Sortable EachIs)

/-- x < y of data that are alike -/
def okLt (d e : PyData) : Bool := flatD d && flatD e && alike d e && (match d with | .none => false | _ => true) && decide (d.depth ≤ 64)
def rLtD (K : PySem.W.Frag) : R2 := fun x y H Q => ∃ d e, Dp K H x d ∧ Dp K H y e ∧ alike d e = true ∧ d ≠ .none ∧ d.depth ≤ 64 ∧ Q (.bl (dataLt d e)) H
theorem op_ltD {X : Cx} (hu : X.A.units + 64 < cLine) : OpR X (compareOp .Lt) (rLtD X.K) := by
  intro pins s σ H x y v u Q I rx ry h
  obtain ⟨d, e, hd, he, ha, hn, hz, q⟩ := h
  obtain ⟨as, r1⟩ := Dp.reads I d x v hd rx
  obtain ⟨bs, r2⟩ := Dp.reads I e y u he ry
  exact PySem.W.rcLt_alike d e X.A s v u as bs r1 r2 ha hn (by omega) X.prog X.w X.xe (EP X pins σ Q) ⟨.bl _, H, I, rfl, q⟩
@[simp] def fLt : PyData → PyData → (PyData → Prop) → Prop := fun d e P => okLt d e = true ∧ P (.bool (dataLt d e))
theorem den_ltD {z : Zn} : DenR z (kR rLtD) fLt := by
  intro H F x y d e P Q s rx ry hf k K
  obtain ⟨h, q⟩ := hf
  unfold okLt at h
  simp only [Bool.and_eq_true, decide_eq_true_eq] at h
  obtain ⟨⟨⟨⟨h1, h2⟩, h3⟩, h4⟩, h5⟩ := h
  exact ⟨d, e, rx.dp s h1, ry.dp s h2, h3, (fun q => by rw [q] at h4; cases h4), h5, k _ H F _ (Grow.stay s) (.bl _) q⟩
theorem c_ltD {z : Zn} {X : Cx} {k : Nat} (hr : Room k X.A) : JC z X .Lt (kR rLtD) fLt := ⟨kR_ok (op_ltD hr.units), den_ltD⟩

/-! ### sorted -/
def rSrt (K : PySem.W.Frag) : List V → Hp → VK → Prop := fun vs H Q => ∃ (F : Hp) (a : Addr) (xs : List V) (ds : List PyData), vs = [V.ref a] ∧ Ex F H ∧ (SqL K H a xs) ∧ RpA F xs ds ∧ flatDs ds = true ∧ AllAlike ds ∧ Sortable ds ∧ (∀ d ∈ ds, d.depth ≤ 60) ∧
  ∀ (ys : List V) (p : Addr), RpA F ys (ds.mergeSort (dataLe false id)) → H p = none → Q (.ref p) (L2.upd H p (.lst ys))
theorem flatDs_mem {ds : List PyData} (h : flatDs ds = true) : ∀ d ∈ ds, flatD d = true := by
  induction ds with
  | nil => intro d hd; cases hd
  | cons x xs ih =>
    rw [flatDs, Bool.and_eq_true] at h
    intro d hd
    rcases List.mem_cons.mp hd with e | hd
    · rw [e]; exact h.1
    · exact ih h.2 d hd
theorem cr_srt {X : Cx} {k : Nat} (hr : Room k X.A) : CallR X (.builtin "sorted") (rSrt X.K) := by
  intro pins s σ H vs us Q I r h
  obtain ⟨F, a, xs, ds, rfl, e, hs, ra, hfl, hal, hsort, hdep, q⟩ := h
  obtain ⟨its, rv, hl, hz⟩ := I.list hs
  rw [Vals.ref1 r]
  have hlen : its.length = ds.length := by rw [← rv.length, ra.length]
  have each : EachIs (fun u d => ∃ x, RelV x u ∧ Rp F x d) its ds := by
    have key : ∀ (xs : List V) (its : List Value) (ds : List PyData), Vals xs its → RpA F xs ds → EachIs (fun u d => ∃ x, RelV x u ∧ Rp F x d) its ds := by
      intro xs
      induction xs with
      | nil => intro its ds h1 h2; cases h1; cases h2; exact .nil
      | cons x xs ih =>
        intro its ds h1 h2
        cases h1 with
        | cons r1 r2 => cases h2 with
          | cons q1 q2 => exact .cons ⟨x, r1, q1⟩ (ih _ _ r2 q2)
    exact key xs its ds rv ra
  have eachR : ∀ (us : List Value) (es : List PyData), flatDs es = true → EachIs (fun u d => ∃ x, RelV x u ∧ Rp F x d) us es → EachIs (fun u d => ∃ as, Reads s.heap u d as) us es := by
    intro us es hf h
    induction h with
    | nil => exact .nil
    | cons h1 h2 ih =>
      rw [flatDs, Bool.and_eq_true] at hf
      obtain ⟨x, rx, rp⟩ := h1
      exact .cons (Dp.reads I _ x _ (rp.dp (K := X.K) e hf.1) rx) (ih hf.2)
  have hmap : ds.map (id : PyData → PyData) = ds := by simp
  refine PySem.W.sorted_data (enc := id) (R := fun u d => ∃ x, RelV x u ∧ Rp F x d) hl.isList each (eachR _ _ hfl each) (by rw [hmap]; exact hal) (by rw [hmap]; exact hsort) (by rw [← ra.length]; exact hz)
    (fun b hb => by have := hdep b hb; have := hr.un; show X.A.units + 2 + (id b).depth < cLine; simp only [id]; omega) fun out ho he => ?_
  have back : ∀ (us : List Value) (es : List PyData), EachIs (fun u d => ∃ x, RelV x u ∧ Rp F x d) us es → ∃ ys : List V, Vals ys us ∧ RpA F ys es := by
    intro us es h
    induction h with
    | nil => exact ⟨[], .nil, .nil⟩
    | cons h1 h2 ih =>
      obtain ⟨ys, a1, a2⟩ := ih
      obtain ⟨x, b1, b2⟩ := h1
      exact ⟨x :: ys, .cons b1 a1, .cons b2 a2⟩
  obtain ⟨ys, y1, y2⟩ := back _ _ he
  obtain ⟨ep, he'⟩ := PyProof.Rows.sortedAll_at s.heap its out.toArray
  have hlen2 : ys.length ≤ sizeLine := by
    rw [y1.length, ho, ← ra.length]
    exact hz
  exact ⟨.ref _, L2.upd H (s.heap.objs.size + 1) (.lst ys), I.laid (t' := s.toks) (fun _ _ => PyProof.Rows.sortedAll_old) (Nat.le_succ _) ⟨hlen2, out, ep, y1, he'⟩, rfl, q _ _ y2 (I.hok.fresh (Nat.le_succ _))⟩
/-- may be sorted -/
structure OkSort (ds : List PyData) : Prop where
  fl : flatDs ds = true
  al : AllAlike ds
  so : Sortable ds
  dp : ∀ d ∈ ds, d.depth ≤ 60
section
variable {z : Zn} {X : Cx} {e : Expr} {t : TE} {we : WE} {p pos p0 p1 p2 p3 : Pos} {k : Nat}
@[simp] def wSorted (w : WE) : WA := fun en P => w en fun d n => ∃ ds, d = .list ds ∧ OkSort ds ∧ P (ds.mergeSort (dataLe false id)) n
theorem jl_sorted (hr : Room k X.A) (bi : ∀ x ∈ BI, X.mg x = none) (h : JE z X e t we) (hg : Gl X "sorted" := by rfl) (he : starEach [e] X.env = (false, eval e X.env) :: starEach [] X.env := by rfl) (hpl : (backTo pos (starEach [] X.env)).any (·.1) = false := by rfl) :
    JL z X (.Call (.Name "sorted" p) [e] [] pos) (tCB (kC rSrt) (tCons t tNil)) (wSorted we) where
  pe := pe_callB (kC_ok (cr_srt hr)) hg (bi _ (by decide)) (by decide +kernel) (pa_cons h.pe pa_nil he) (by decide) (by decide) he hpl
  de := fun B σ H F en s P Q hw kk => by
    refine h.de B σ H F en s _ _ hw fun v H1 F1 d n1 g1 s1 r1 q1 => ?_
    obtain ⟨ds, rfl, o, q⟩ := q1
    cases r1 with
    | lst e r =>
      intro K
      refine ⟨F1, _, _, ds, rfl, g1.sub, SqL.of (g1.sub _ _ e), r, o.fl, o.al, o.so, o.dp, fun ys l ry hl => ?_⟩
      exact kk l ys _ F1 _ n1 (g1.trans (Grow.fresh g1.sub hl)) (s1.upd (zv_not s1 hl)) (g1.dom l hl) (none_of_sub g1.sub hl) upd_same ry q
/-! ### more statements -/
/-- x.extend(e), e a list -/
@[simp] def wExt (i : Nat) (w : WE) : WS := fun P en => ∃ ds, en.s[i]? = some (.own ds) ∧ w en fun d n => ∃ es, d = .list es ∧ ds.length + es.length ≤ 100000 ∧ P.nx ⟨en.s.set i (.own (ds ++ es)), n⟩
theorem den_ext {K : PySem.W.Frag} {i : Nat} (h : Den z t we) : DenS z (tDrop (tBM K "list" rExtend (tVar i) (tCons t tNil))) (wExt i we) := fun B F0 σ H F en D P s g hw kk => by
  obtain ⟨ds, h1, h2⟩ := hw
  obtain ⟨l, xs, e1, e2, e3, e4, e5, e6⟩ := s.own h1
  refine ⟨.ref l, e1, .inl ⟨rfl, _, SqL.of e4⟩, ?_⟩
  refine h B σ H F en s _ _ h2 fun v H1 F1 d n1 g1 s1 r1 q1 => ?_
  obtain ⟨es, rfl, hl, q⟩ := q1
  have e4' : H1 l = some (.lst xs) := g1.keep l _ e3 e4
  have s2 := s.grow g1 s1
  cases r1 with
  | @lst a ys _ ea r =>
    refine ⟨l, a, xs, ys, rfl, rfl, e4', g1.sub _ _ ea, Evl.sz_of (by rw [e5.length, r.length]; exact hl), ?_⟩
    have e2' : F1 l = none := g1.apart e4 e3 (fun _ q => nomatch q) e2
    exact kk.nx σ _ F1 _ (s2.reown h1 e1 ((e5.mono g1.ext).append r)) ((g.trans g1).wrote (xs := xs) e6 e2') q
theorem js_ext {x : Str} (i : Nat) (h : JE z X e t we) (hN : X.N[i]? = some x := by rfl) (hv : Vis X.env.scope x := by first | exact Or.inl rfl | exact Or.inr (Or.inl rfl) | exact Or.inr (Or.inr rfl)) (hd : (x == ("__debug__" : Str)) = false := by decide)
    (hcd : (x == ("__classdict__" : Str)) = false := by decide)
    (hbase : attributeBase (.Name x p0) "extend" X.env (eval (.Name x p0) X.env) = eval (.Name x p0) X.env := by rfl)
    (hfew : ((backTo p2 (starEach [e] X.env)).all (fun x => !x.1) && (backToKw p2 (keywordEach [] X.env)).all (fun x => x.1.isSome)
      && decide ([e].length + ([] : List Keyword).length + (if ([] : List Keyword).isEmpty then 0 else 1) < 30)) = true := by rfl)
    (hline : (p1.endLine == p2.line) = true := by rfl)
    (he : starEach [e] X.env = (false, eval e X.env) :: starEach [] X.env := by rfl) (hpl : (backTo p2 (starEach [] X.env)).any (·.1) = false := by rfl)
    (hs : swapsWith (.Call (.Attribute (.Name x p0) "extend" p1) [e] [] p2) none p3.line X.env = pure false := by rfl) :
    JS z X (.Expr (.Call (.Attribute (.Name x p0) "extend" p1) [e] [] p2) p3) (tDrop (tBM X.K "list" rExtend (tVar i) (tCons t tNil))) (wExt i we) where
  ps := ps_expr (pe_bm PySem.F.plainAttrs_list PySem.F.slot_list_extend PySem.F.type_list_extend mt_extend (pv i hN hv hd hcd) (pa_cons h.pe pa_nil he) hbase hfew hline he hpl) hs
  de := den_ext h.de
/-- x[j] = e, x an own list -/
@[simp] def wSet (i : Nat) (w wi : WE) : WS := fun P en => ∃ ds, en.s[i]? = some (.own ds) ∧ w en fun d n => wi ⟨en.s, n⟩ fun ix n' => ∃ j m, ix = .int j ∧ ixN ds.length j = some m ∧ P.nx ⟨en.s.set i (.own (ds.set m d)), n'⟩
theorem den_set {ti : TE} {wi : WE} {i : Nat} (h : Den z t we) (hi : Den z ti wi) : DenS z (tAsg t (gSub (tVar i) ti rSetL)) (wSet i we wi) := fun B F0 σ H F en D P s g hw kk => by
  obtain ⟨ds, hds, hw⟩ := hw
  refine h B σ H F en s _ _ hw fun v H1 F1 d n1 g1 s1 r1 q1 => ?_
  have sa := s.grow g1 s1
  obtain ⟨l, xs, e1, e2, e3, e4, e5, e6⟩ := sa.own hds
  refine ⟨.ref l, e1, ?_⟩
  refine hi B σ H1 F1 _ sa _ _ q1 fun u H2 F2 ix n2 g2 s2 r2 q2 => ?_
  obtain ⟨j, m, rfl, h2, q⟩ := q2
  cases r2
  have e4' : H2 l = some (.lst xs) := g2.keep l _ e3 e4
  have sb := sa.grow g2 s2
  refine ⟨l, xs, j, m, rfl, rfl, e4', by rw [e5.length]; exact h2, ?_⟩
  have e2' : F2 l = none := g2.apart e4 e3 (fun _ q => nomatch q) e2
  exact kk.nx σ _ F2 _ (sb.reown hds e1 ((e5.mono g2.ext).set (r1.mono g2.ext) m)) (((g.trans g1).trans g2).wrote (xs := xs) e6 e2') q
theorem js_set {x : Str} {ix : Expr} {ti : TE} {wi : WE} (i : Nat) (h : JE z X e t we) (hi : JE z X ix ti wi) (hN : X.N[i]? = some x := by rfl) (hv : Vis X.env.scope x := by first | exact Or.inl rfl | exact Or.inr (Or.inl rfl) | exact Or.inr (Or.inr rfl)) (hd : (x == ("__debug__" : Str)) = false := by decide)
    (hcd : (x == ("__classdict__" : Str)) = false := by decide)
    (ha : ∀ v, assign (.Subscript (.Name x p0) ix p1) X.env v = (do
      let ov ← holding [v] (eval (.Name x p0) X.env)
      let iv ← holding [v, ov] (eval ix X.env)
      standAt p1
      holding [v, ov, iv] (setItem ov iv v)
      release [v, ov, iv] []) := by intro _; rfl)
    (hs : swapsWithSole [.Subscript (.Name x p0) ix p1] e pos.line X.env = pure false := by rfl) (hw : swappedStores [.Subscript (.Name x p0) ix p1] e X.env = pure none := by rfl)
    (h1 : (assignEach [.Subscript (.Name x p0) ix p1] X.env).map (·.2) = [assign (.Subscript (.Name x p0) ix p1) X.env] := by rfl) :
    JS z X (.Assign [.Subscript (.Name x p0) ix p1] e pos) (tAsg t (gSub (tVar i) ti rSetL)) (wSet i we wi) where
  ps := ps_asg h.pe (pg_sub (pv i hN hv hd hcd) hi.pe set_list ha) hs hw h1
  de := den_set h.de hi.de
theorem js_augAdd {x : Str} (i : Nat) (hN : X.N.Nodup) (hi : X.N[i]? = some x) (hx : Loc X.env.scope x) (h : JE z X e t we) (hf : X.fn x = true ∨ X.env.scope.names.lookup x = some .local := by first | exact .inl rfl | exact .inr rfl | assumption) :
    JS z X (.AugAssign (.Name x p) .Add e pos) (tAug i t (ipI fun i j => i + j)) (wAug (fun i j => i + j) i we) := ⟨ps_aug hN hi hx h.pe ip_add hf, den_aug h.de⟩
theorem js_par {i j : Nat} {x y : Str} {a b : Expr} {ta : TA} {wa : WA} {px py pt : Pos} {kt k2 pt2} (ia ja : Nat) (hN : X.N.Nodup) (hi : X.N[ia]? = some x) (hj : X.N[ja]? = some y) (ha : JA z X [a, b] ta wa) (hij : ia ≠ ja := by decide)
    (hx : X.env.scope.names.lookup x = some .local := by rfl) (hy : X.env.scope.names.lookup y = some .local := by rfl) (hc : X.calm = true := by rfl)
    (hw : swappedStores [.Tuple [.Name x px, .Name y py] kt pt] (.Tuple [a, b] k2 pt2) X.env = pure (some [x, y]) := by rfl)
    (hs : swapsWithSole [.Tuple [.Name x px, .Name y py] kt pt] (.Tuple [a, b] k2 pt2) pos.line X.env = pure false := by rfl) :
    JS z X (.Assign [.Tuple [.Name x px, .Name y py] kt pt] (.Tuple [a, b] k2 pt2) pos) (tPar ia ja ta) (wPar ia ja wa) := ⟨ps_par hc hN hi hj hij hx hy ha.pa hw hs, den_par ha.de⟩
/-- y = [.. for ..], a value -/
theorem js_setLcV {y : Str} {py : Pos} {elt tg iter : Expr} {ifs : List Expr} {scope : Scope} {spos : Pos} {wi : TI} {g : TG} {tt : TT} {te : TE} {ws : WA} {js : List Nat} {wg : En → PyData → (En → Prop) → Prop} {wt : WT} {we : WE} (i : Nat) (own : List (Str × Nat)) (hN : X.N.Nodup) (hy : X.N[i]? = some y) (hyl : X.env.scope.names.lookup y = some .local)
    (hsw : swapsWith (.ListComp elt [⟨tg, iter, ifs, 0⟩] scope pos) (some (.Name y py)) spos.line X.env = pure true) (hi : JI z X tg iter wi ws) (ok : blkC X.N X.env.scope scope own = true)
    (hg : ∀ (s : Shared) (H : Hp) (C : Addr) (cl : List (Str × Addr)) (fp : List Addr), JG z (X.blk s H scope (compEnvC scope cl C X.env) fp) tg g js wg) (ht : ∀ (s : Shared) (H : Hp) (C : Addr) (cl : List (Str × Addr)) (fp : List Addr), JTs z (X.blk s H scope (compEnvC scope cl C X.env) fp) ifs tt wt)
    (he : ∀ (s : Shared) (H : Hp) (C : Addr) (cl : List (Str × Addr)) (fp : List Addr), JE z (X.blk s H scope (compEnvC scope cl C X.env) fp) elt te we) (hc : X.calm = true := by rfl) (hj : ∀ j ∈ js, j ∈ own.map (·.2) := by decide)
    (hs : ∀ x, foldedSetIterable iter X.env x = pure x := by intro _; rfl) :
    JS z X (.Assign [.Name y py] (.ListComp elt [⟨tg, iter, ifs, 0⟩] scope pos) spos) (tAsg (tLc wi g tt te (own.map (·.2))) (gName i)) (wAsg (wAsL (wLc ws wg wt we (own.map (·.2)))) (wgN i)) where
  ps := ps_setLc hc hN hy hyl hsw hi.pi (blkOk_by ok) (fun s H C cl fp => (hg s H C cl fp).pg) (fun s H C cl fp => (ht s H C cl fp).pts) (fun s H C cl fp => (he s H C cl fp).pe) hs
  de := den_asg (jl_lc own hN hi ok hg ht he hc hj hs (pos := pos)).je'.de (js := [i]) fun B σ H F en v d s r P Q hw k => k _ _ (s.set i r) ⟨by simp, fun j hj => by
    rw [List.getElem?_set_ne]
    intro q
    exact hj (by simp [q])⟩ hw
/-! ### comprehensions and loops, as they are used -/
theorem lc_inv {ws : WA} {wg : En → PyData → (En → Prop) → Prop} {wt : WT} {we' : WE} {vs : List Nat} {en : En} {P : List PyData → Nat → Prop} (ds : List PyData) (n : Nat) (hw : ∀ R : List PyData → Nat → Prop, R ds n → ws en R) (I : Nat → List PyData → Nat → Prop) (i0 : I 0 [] n)
    (hs : ∀ (k : Nat) (d : PyData) (acc : List PyData) (n1 : Nat), ds[k]? = some d → I k acc n1 → wg (wipeE ⟨en.s, n1⟩ vs) d fun en2 => wt en2 fun b n2 => if b = true then we' ⟨en2.s, n2⟩ fun r n3 => acc.length < 100000 ∧ I (k + 1) (acc ++ [r]) n3 else I (k + 1) acc n2)
    (hp : ∀ acc n1, I ds.length acc n1 → P acc n1) : wLc ws wg wt we' vs en P := hw _ ⟨I, i0, hs, hp⟩
/-- the element is a function of the item -/
theorem lc_map {ws : WA} {wg : En → PyData → (En → Prop) → Prop} {we' : WE} {vs : List Nat} {en : En} {P : List PyData → Nat → Prop} (ds : List PyData) (n : Nat) (hw : ∀ R : List PyData → Nat → Prop, R ds n → ws en R) (g : PyData → PyData) (hl : ds.length ≤ 100000)
    (hs : ∀ d ∈ ds, ∀ (n1 : Nat) (Q : PyData → Nat → Prop), Q (g d) n1 → wg (wipeE ⟨en.s, n1⟩ vs) d fun en2 => we' ⟨en2.s, en2.n⟩ Q) (hp : P (ds.map g) n) : wLc ws wg wYes we' vs en P := by
  refine lc_inv ds n hw (fun k acc n1 => acc = (ds.take k).map g ∧ n1 = n ∧ k ≤ ds.length) ⟨by simp, rfl, Nat.zero_le _⟩ (fun k d acc n1 hk ⟨ha, hn, hle⟩ => ?_) fun acc n1 ⟨ha, hn, _⟩ => ?_
  · subst hn
    have hm : d ∈ ds := List.mem_of_getElem? hk
    have hkl : k < ds.length := (List.getElem?_eq_some_iff.mp hk).1
    have tk : ds.take (k + 1) = ds.take k ++ [d] := by rw [List.take_add_one, hk]; rfl
    have hal : acc.length < 100000 := by
      rw [ha, List.length_map, List.length_take]
      omega
    have key := hs d hm n1 (fun r n3 => acc.length < 100000 ∧ acc ++ [r] = (ds.take (k + 1)).map g ∧ n3 = n1 ∧ k + 1 ≤ ds.length) ⟨hal, by rw [tk, List.map_append, ← ha]; rfl, rfl, hkl⟩
    simpa using key
  · subst hn
    rw [ha, List.take_length]
    exact hp
theorem for_inv {ws : WA} {wg : En → PyData → (En → Prop) → Prop} {wb : WS} {en : En} {P : DEn} (ds : List PyData) (n : Nat) (hw : ∀ R : List PyData → Nat → Prop, R ds n → ws en R) (I : Nat → En → Prop) (i0 : I 0 ⟨en.s, n⟩)
    (hs : ∀ (k : Nat) (d : PyData) (en' : En), ds[k]? = some d → I k en' → wg en' d fun en2 => wb { nx := I (k + 1), ct := I (k + 1), bk := P.nx, rt := P.rt } en2)
    (hp : ∀ en', I ds.length en' → P.nx en') : wFor ws wg wb P en := hw _ ⟨I, i0, hs, hp⟩
theorem while_inv {wt : WT} {wb : WS} {P : DEn} {en : En} (I : Nat → En → Prop) (m : Nat) (i0 : I m en)
    (hs : ∀ (m : Nat) (en' : En), I m en' → wt en' fun b n => if b = true then wb { nx := fun e2 => ∃ m', m' < m ∧ I m' e2, ct := fun e2 => ∃ m', m' < m ∧ I m' e2, bk := P.nx, rt := P.rt } ⟨en'.s, n⟩ else P.nx ⟨en'.s, n⟩) : wWhile wt wb P en := ⟨I, ⟨m, i0⟩, hs⟩
/-! ### promises by functions -/
@[simp] def sF1 (g : PyData → PyData) : PSp := fun ds Q => ∃ d, ds = [d] ∧ Q (g d)
@[simp] def sC1 (c : PyData → Prop) (g : PyData → PyData) : PSp := fun ds Q => ∃ d, ds = [d] ∧ c d ∧ Q (g d)
@[simp] def sF2 (g : PyData → PyData → PyData) : PSp := fun ds Q => ∃ d e, ds = [d, e] ∧ Q (g d e)
@[simp] def sC2 (c : PyData → PyData → Prop) (g : PyData → PyData → PyData) : PSp := fun ds Q => ∃ d e, ds = [d, e] ∧ c d e ∧ Q (g d e)
end

/-! ### data compared -/
@[simp] theorem okD_int (i : Int) : okD (.int i) = true := rfl
@[simp] theorem okD_none : okD .none = true := rfl
@[simp] theorem okD_bool (b : Bool) : okD (.bool b) = true := rfl
@[simp] theorem eqv_ii (i j : Int) : PyData.eqv (.int i) (.int j) = decide (i = j) := by
  simp only [PyData.eqv]
  by_cases h : i = j
  · subst h; simp
  · rw [decide_eq_false h]; exact beq_eq_false_iff_ne.mpr h
@[simp] theorem eqv_bb (a b : Bool) : PyData.eqv (.bool a) (.bool b) = (a == b) := by simp [PyData.eqv]
@[simp] theorem eqv_ss (a b : Str) : PyData.eqv (.str a) (.str b) = (a == b) := by simp [PyData.eqv]
theorem okD_str (x : Str) : okD (.str x) = (PyData.canLay0 (.str x)) := by simp [okD, flatD, SeqAt.shaped, PyData.depth]
@[simp] theorem eqv_none (d : PyData) : PyData.eqv d .none = noneD d := by
  cases d <;> simp [PyData.eqv, noneD]
@[simp] theorem shaped_int (i : Int) : SeqAt.shaped (.int i) = true := rfl
@[simp] theorem wipeE_nil (en : En) : wipeE en [] = en := rfl
@[simp] theorem wipeE_cons (en : En) (v : Nat) (vs : List Nat) : wipeE en (v :: vs) = ⟨(wipeE en vs).s.set v .no, en.n⟩ := rfl
theorem isSeq_of {d : PyData} {xs : List PyData} (h : seqD d = some xs) : isSeq d = true := by cases d <;> first | rfl | cases h
theorem isSeq_no {d : PyData} (h : seqD d = none) : isSeq d = false := by cases d <;> first | rfl | cases h
theorem bools_of {ds : List PyData} {g : PyData → Bool} {C : List Bool → Prop} (h : C (ds.map g)) : ∃ bs : List Bool, ds.map (fun x => PyData.bool (g x)) = bs.map PyData.bool ∧ C bs := ⟨ds.map g, by rw [List.map_map]; rfl, h⟩
theorem all_map_id {ds : List PyData} {g : PyData → Bool} : (ds.map g).all id = ds.all g := by rw [List.all_map]; rfl
theorem any_map_id {ds : List PyData} {g : PyData → Bool} : (ds.map g).any id = ds.any g := by rw [List.any_map]; rfl

/-! ### items and slices at written places -/
theorem atI_nat {α : Type} (xs : List α) (i : Nat) : L2.atI xs (i : Int) = xs[i]? := by
  unfold L2.atI ixN
  rw [if_pos (Int.natCast_nonneg i)]
  by_cases h : i < xs.length
  · rw [if_pos (by omega)]
    show xs[(i : Int).toNat]? = xs[i]?
    rw [Int.toNat_natCast]
  · rw [if_neg (by omega), List.getElem?_eq_none (by omega)]
    rfl
@[simp] theorem atI_0 {α : Type} (xs : List α) : L2.atI xs 0 = xs[0]? := atI_nat xs 0
@[simp] theorem atI_1 {α : Type} (xs : List α) : L2.atI xs 1 = xs[1]? := atI_nat xs 1
@[simp] theorem atI_2 {α : Type} (xs : List α) : L2.atI xs 2 = xs[2]? := atI_nat xs 2
@[simp] theorem atI_3 {α : Type} (xs : List α) : L2.atI xs 3 = xs[3]? := atI_nat xs 3
@[simp] theorem atI_4 {α : Type} (xs : List α) : L2.atI xs 4 = xs[4]? := atI_nat xs 4
@[simp] theorem atI_5 {α : Type} (xs : List α) : L2.atI xs 5 = xs[5]? := atI_nat xs 5
theorem atI_pos {α : Type} (xs : List α) {i : Int} (h : 0 ≤ i) : L2.atI xs i = xs[i.toNat]? := by
  have e : i = ((i.toNat : Nat) : Int) := by omega
  have := atI_nat xs i.toNat
  rw [← e] at this
  exact this
@[simp] theorem atI_m1 {α : Type} (xs : List α) : L2.atI xs (-1) = xs.getLast? := by
  unfold L2.atI ixN
  rw [if_neg (by decide)]
  cases xs with
  | nil => rfl
  | cons x xs =>
    rw [if_pos (by simp only [List.length_cons]; omega)]
    have e : ((-1 : Int) + ((x :: xs).length : Nat)).toNat = (x :: xs).length - 1 := by simp only [List.length_cons]; omega
    show (x :: xs)[((-1 : Int) + ((x :: xs).length : Nat)).toNat]? = _
    rw [e, List.getLast?_eq_getElem?]
theorem sIx_nat (n d i : Nat) : HT.sIx n d (some (i : Int)) = min i n := by
  unfold HT.sIx
  simp only
  split
  · omega
  · omega
@[simp] theorem cutD_all {α : Type} (xs : List α) : cutD xs none none = xs := by simp [cutD, HT.sIx]
theorem cutD_upto {α : Type} (xs : List α) (i : Nat) : cutD xs none (some (i : Int)) = xs.take i := by
  unfold cutD
  rw [sIx_nat]
  simp [HT.sIx]
theorem cutD_from {α : Type} (xs : List α) (i : Nat) : cutD xs (some (i : Int)) none = xs.drop i := by
  unfold cutD
  rw [sIx_nat]
  simp only [HT.sIx]
  by_cases h : i ≤ xs.length
  · rw [Nat.min_eq_left h, List.take_of_length_le (by rw [List.length_drop]; exact Nat.le_refl _)]
  · rw [Nat.min_eq_right (by omega), List.drop_of_length_le (Nat.le_refl _), List.drop_of_length_le (by omega)]
    simp
@[simp] theorem cutD_u3 {α : Type} (xs : List α) : cutD xs none (some 3) = xs.take 3 := cutD_upto xs 3
@[simp] theorem cutD_u5 {α : Type} (xs : List α) : cutD xs none (some 5) = xs.take 5 := cutD_upto xs 5
@[simp] theorem cutD_u2 {α : Type} (xs : List α) : cutD xs none (some 2) = xs.take 2 := cutD_upto xs 2
@[simp] theorem cutD_f1 {α : Type} (xs : List α) : cutD xs (some 1) none = xs.drop 1 := cutD_from xs 1
@[simp] theorem cutD_f2 {α : Type} (xs : List α) : cutD xs (some 2) none = xs.drop 2 := cutD_from xs 2
@[simp] theorem cutD_f3 {α : Type} (xs : List α) : cutD xs (some 3) none = xs.drop 3 := cutD_from xs 3
/-! ### data of ints, truth values, None alone -/
mutual
def plain : PyData → Bool
  | .none => true
  | .bool _ => true
  | .int _ => true
  | .str _ => false
  | .list xs => plains xs
  | .tuple xs => plains xs
  | .dict _ => false
def plains : List PyData → Bool
  | [] => true
  | x :: xs => plain x && plains xs
end
mutual
theorem plain_flat : ∀ {d : PyData}, plain d = true → flatD d = true ∧ d.canLay0 = true
  | .none, _ => ⟨rfl, rfl⟩
  | .bool _, _ => ⟨rfl, rfl⟩
  | .int _, _ => ⟨rfl, rfl⟩
  | .str _, h => by simp [plain] at h
  | .list xs, h => by
    have := plains_flat (xs := xs) (by simpa [plain] using h)
    exact ⟨by simpa [flatD] using this.1, by simpa [PyData.canLay0] using this.2⟩
  | .tuple xs, h => by
    have := plains_flat (xs := xs) (by simpa [plain] using h)
    exact ⟨by simpa [flatD] using this.1, by simpa [PyData.canLay0] using this.2⟩
  | .dict _, h => by simp [plain] at h
theorem plains_flat : ∀ {xs : List PyData}, plains xs = true → flatDs xs = true ∧ PyData.canLayAll0 xs = true
  | [], _ => ⟨rfl, rfl⟩
  | x :: xs, h => by
    rw [plains, Bool.and_eq_true] at h
    have h1 := plain_flat h.1
    have h2 := plains_flat h.2
    exact ⟨by rw [flatDs, h1.1, h2.1]; rfl, by rw [PyData.canLayAll0, h1.2, h2.2]; rfl⟩
end
theorem okD_plain {d : PyData} (h : plain d = true) (hd : d.depth ≤ 64) : okD d = true := by
  have := plain_flat h
  unfold okD SeqAt.shaped
  rw [this.1, this.2, decide_eq_true hd]
  rfl
theorem plains_all {xs : List PyData} (h : ∀ d ∈ xs, plain d = true) : plains xs = true := by
  induction xs with
  | nil => rfl
  | cons x xs ih => rw [plains, h x (by simp), ih fun d hd => h d (by simp [hd])]; rfl
theorem depthAll_le {xs : List PyData} {n : Nat} (h : ∀ d ∈ xs, d.depth ≤ n) : PyData.depthAll xs ≤ n := by
  induction xs with
  | nil => simp [PyData.depthAll]
  | cons x xs ih =>
    have h1 := h x (by simp)
    have h2 := ih fun d hd => h d (by simp [hd])
    simp only [PyData.depthAll]
    omega
theorem okD_list {xs : List PyData} {n : Nat} (h : ∀ d ∈ xs, plain d = true ∧ d.depth ≤ n) (hn : n ≤ 63) : okD (.list xs) = true := by
  refine okD_plain (by simp only [plain]; exact plains_all fun d hd => (h d hd).1) ?_
  have := depthAll_le fun d hd => (h d hd).2
  simp only [PyData.depth]
  omega
theorem okLt_of {d e : PyData} (h1 : plain d = true) (h2 : plain e = true) (h3 : alike d e = true) (h4 : d ≠ .none) (h5 : d.depth ≤ 64) : okLt d e = true := by
  unfold okLt
  rw [(plain_flat h1).1, (plain_flat h2).1, h3, decide_eq_true h5]
  cases d <;> first | rfl | exact absurd rfl h4
end DD
/-! The Deep layer, 9: dicts. -/
namespace DD
open PySem PySem.Spec PyProof.Rows L2
open Evl (Ex)
/-- a key that is a whole number or a text -/
def keyA : PyData → Bool
  | .int _ => true
  | .str _ => true
  | _ => false
def pairK (p : PyData × PyData) : PyData := .tuple [p.1, p.2]
theorem rpK_items {F F' : Hp} (e : Ex F F') : ∀ {kvs : List (Key × V)} {es : List (PyData × PyData)} {ts : List Addr}, RpK F kvs es → Paired (fun (t : Addr) (q : Key × V) => F' t = some (.tup [kV q.1, q.2])) ts kvs → RpA F' (ts.map V.ref) (es.map pairK)
  | _, _, _, .nil, .nil => .nil
  | _, _, _, .cons (k := k) h r, .cons h1 r1 => by
    refine .cons (.tup h1 (.cons ?_ (.cons (h.mono e) .nil))) (rpK_items e r r1)
    cases k with
    | inl i => exact .int i
    | inr x => exact .str x
theorem paired_mem {α β : Type} {F : α → β → Prop} : ∀ {xs : List α} {ys : List β}, Paired F xs ys → ∀ x ∈ xs, ∃ y, F x y
  | _, _, .nil, x, h => by cases h
  | _, _, .cons r t, x, h => by
    rcases List.mem_cons.mp h with e | h
    · rw [e]; exact ⟨_, r⟩
    · exact paired_mem t x h
theorem paired_mono {α β : Type} {F G : α → β → Prop} : ∀ {xs : List α} {ys : List β}, Paired F xs ys → (∀ x ∈ xs, ∀ y, F x y → G x y) → Paired G xs ys
  | _, _, .nil, _ => .nil
  | _, _, .cons r t, h => .cons (h _ (by simp) _ r) (paired_mono t fun x hx y q => h x (by simp [hx]) y q)
section
variable {z : Zn} {X : Cx} {e : Expr} {t : TE} {we : WE} {p apos cpos pos : Pos}
@[simp] def wItems (w : WE) : WA := fun en P => w en fun d n => ∃ es, d = .dict es ∧ (es.all fun q => keyA q.1) = true ∧ P (es.map pairK) n
theorem jl_items (bi : ∀ x ∈ BI, X.mg x = none) (h : JE z X e t we) (hg : Gl X "list" := by rfl) (hc : X.calm = true := by rfl) (hbase : attributeBase e "items" X.env (eval e X.env) = eval e X.env := by rfl) (hline : (apos.endLine == cpos.line) = true := by rfl)
    (hs : starEach [.Call (.Attribute e "items" apos) [] [] cpos] X.env = (false, eval (.Call (.Attribute e "items" apos) [] [] cpos) X.env) :: starEach [] X.env := by rfl) :
    JL z X (.Call (.Name "list" p) [.Call (.Attribute e "items" apos) [] [] cpos] [] pos) (LiI.tListItems t) (wItems we) where
  pe := LiI.pe_listItems hc h.pe hg (bi _ (by decide)) (by decide +kernel) hbase hline hs
  de := fun B σ H F en s P Q hw k => by
    refine h.de B σ H F en s _ _ hw fun v H1 F1 d n1 g1 s1 r1 q1 => ?_
    obtain ⟨es, rfl, hk, q⟩ := q1
    cases r1 with
    | @dT a kvs _ ha hne r =>
      cases r with
      | nil => exact absurd rfl hne
      | cons h1 r1 => simp [keyA] at hk
    | @dK a kvs _ ha r =>
      refine ⟨a, kvs, rfl, g1.sub _ _ ha, fun H' l ts hx hl ht hlt hlist hpair => ?_⟩
      have tsF : ∀ b ∈ ts, F1 b = none := fun b hb => none_of_sub g1.sub (ht b hb)
      have e1 : Ex F1 (fun b => if b ∈ ts then H' b else F1 b) := fun b o hb => by
        show (if b ∈ ts then H' b else F1 b) = some o
        rw [if_neg (fun q => by rw [tsF b q] at hb; cases hb)]
        exact hb
      have sub : Ex (fun b => if b ∈ ts then H' b else F1 b) H' := fun b o hb => by
        have hb : (if b ∈ ts then H' b else F1 b) = some o := hb
        by_cases q : b ∈ ts
        · rw [if_pos q] at hb; exact hb
        · rw [if_neg q] at hb; exact hx b o (g1.sub b o hb)
      have g2 : Grow z F1 H1 (fun b => if b ∈ ts then H' b else F1 b) H' := {
        keep := fun b o _ hb => hx b o hb
        dom := fun b hb => by
          cases q : H1 b with
          | none => rfl
          | some o => rw [hx b o q] at hb; cases hb
        ext := e1
        sub := sub
        new := fun b h1 h2 => by
          show (if b ∈ ts then H' b else F1 b) = none ∨ ∃ xs, (if b ∈ ts then H' b else F1 b) = some (.tup xs)
          rw [if_neg (fun q => h1 (ht b q))]
          exact .inl h2 }
      refine k l _ H' _ _ n1 (g1.trans g2) (s1.ex hx) (g1.dom l hl) (by show (if l ∈ ts then H' l else F1 l) = none; rw [if_neg hlt]; exact none_of_sub g1.sub hl) hlist (rpK_items e1 r (paired_mono hpair fun b hb y q => ?_)) q
      show (if b ∈ ts then H' b else F1 b) = _
      rw [if_pos hb]
      exact q
/-- dict([.. for key in x]), x an empty dict -/
@[simp] def wD0 (i : Nat) : WE := fun en P => en.s[i]? = some (.val (.dict [])) ∧ P (.dict []) en.n
theorem je_dcopy {x : Str} {elt : Expr} {key : Str} {kp p0 cp : Pos} {scope : Scope} {te : TE} (i j : Nat) (own : List (Str × Nat)) (hN : X.N.Nodup) (bi : ∀ x ∈ BI, X.mg x = none) (hx : X.N[i]? = some x) (ok : blkC X.N X.env.scope scope own = true)
    (hg : ∀ (s : Shared) (H : Hp) (C : Addr) (cl : List (Str × Addr)) (fp : List Addr), PG (X.blk s H scope (compEnvC scope cl C X.env) fp) (.Name key kp) (gName j))
    (he : ∀ (s : Shared) (H : Hp) (C : Addr) (cl : List (Str × Addr)) (fp : List Addr), PE (X.blk s H scope (compEnvC scope cl C X.env) fp) elt te)
    (hv : Vis X.env.scope x := by first | exact Or.inl rfl | exact Or.inr (Or.inl rfl) | exact Or.inr (Or.inr rfl)) (hd : (x == ("__debug__" : Str)) = false := by decide) (hcd : (x == ("__classdict__" : Str)) = false := by decide)
    (hc : X.calm = true := by rfl) (hgl : Gl X "dict" := by rfl)
    (hs : ∀ v, foldedSetIterable (.Name x p0) X.env v = pure v := by intro _; rfl)
    (hst : starEach [.ListComp elt [⟨.Name key kp, .Name x p0, [], 0⟩] scope cp] X.env = (false, eval (.ListComp elt [⟨.Name key kp, .Name x p0, [], 0⟩] scope cp) X.env) :: starEach [] X.env := by rfl) (hpl : (backTo pos (starEach [] X.env)).any (·.1) = false := by rfl) :
    JE z X (.Call (.Name "dict" p) [.ListComp elt [⟨.Name key kp, .Name x p0, [], 0⟩] scope cp] [] pos) (tCB (fun xs H Q => ∃ (a : Addr) (ps : List Addr) (kvs : List (Key × V)), xs = [.ref a] ∧ SqL X.K H a (ps.map V.ref) ∧ Paired (fun p kv => SqT X.K H p [kV kv.1, kv.2]) ps kvs ∧
      ∀ p, H p = none → Q (.ref p) (L2.upd H p (.dK (mergeK [] kvs)))) (tCons (tLockE (tLc (iKeys (tVar i)) (gName j) tYes te (own.map (·.2)))) tNil)) (wD0 i) where
  pe := pe_callTy (call_dictP hc) hgl (bi _ (by decide)) (by decide +kernel) (pa_cons (pe_lock (pe_lc hc hN (pi_keys (pe_var hx hv hd hcd)) (blkOk_by ok) hg (fun _ _ _ _ _ => pts_nil) he hs)) pa_nil hst) (by decide) (by decide) hst hpl
  de := fun B σ H F en s P Q hw k => by
    obtain ⟨h1, q⟩ := hw
    obtain ⟨o, e1, v, rfl, r⟩ := s.slot i _ h1
    cases r with
    | @dT a kvs _ ha hne r => cases r; exact absurd rfl hne
    | @dK a kvs _ ha r =>
      cases r
      have hHa : H a = some (.dK []) := s.sub _ _ ha
      refine ⟨a, .dK [], hHa, trivial, fun od => ?_⟩
      refine ⟨.ref a, e1, a, od, rfl, .inl ⟨[], upd_same, fun D hD => ?_⟩⟩
      have hDa : D ≠ a := fun e => by rw [e, upd_same] at hD; cases hD
      have hHD : H D = none := by rwa [upd_ne hDa] at hD
      refine ⟨fun i m H' => i = 0 ∧ H' = L2.upd (L2.upd H a (.frz od (.dK []))) D (.lst []), ⟨0, rfl, rfl⟩, ?_⟩
      rintro i' m H' ⟨rfl, rfl⟩
      refine .inl ⟨⟨by rw [upd_ne (Ne.symm hDa)]; exact upd_same, Nat.le_refl _⟩, by rw [upd_ne (Ne.symm hDa)]; exact upd_same, ?_⟩
      refine ⟨D, [], [], rfl, SqL.of (by rw [upd_ne hDa]; exact upd_same), .nil, fun l hl => ?_⟩
      have hla : l ≠ a := fun e => by rw [e, upd_same] at hl; cases hl
      have hlD : l ≠ D := fun e => by rw [e, upd_ne hDa, upd_same] at hl; cases hl
      have hHl : H l = none := by rwa [upd_ne hla, upd_ne hlD, upd_ne hla] at hl
      have same : ∀ b, b ≠ D → L2.upd (L2.upd (L2.upd H a (.frz od (.dK []))) D (.lst [])) a (.dK []) b = H b := fun b hb => by
        by_cases e : b = a
        · rw [e, upd_same, hHa]
        · rw [upd_ne e, upd_ne hb, upd_ne e]
      have g1 : Grow z F H F (L2.upd (L2.upd (L2.upd H a (.frz od (.dK []))) D (.lst [])) a (.dK [])) := {
        keep := fun b o _ h => by rw [same b (ne_of_none h hHD)]; exact h
        dom := fun b h => by
          by_cases e : b = D
          · rw [e]; exact hHD
          · rwa [same b e] at h
        ext := Evl.Ex.refl F
        sub := fun b o h => by
          have := s.sub b o h
          rw [same b (ne_of_none this hHD)]; exact this
        new := fun _ _ h => .inl h }
      have s1 : Stm z en.n (L2.upd (L2.upd (L2.upd H a (.frz od (.dK []))) D (.lst [])) a (.dK [])) := by
        have sm := s.stm
        cases z with
        | none => trivial
        | some zz =>
          obtain ⟨st, sl⟩ := zz
          obtain ⟨ns, c, kk, m, h1, h2, r⟩ := sm
          exact ⟨ns, c, kk, m, by rw [same st (ne_of_none h1 hHD)]; exact h1, by rw [same sl (ne_of_none h2 hHD)]; exact h2, r⟩
      exact k _ _ _ _ en.n (g1.trans (Grow.laid g1.sub hl)) (s1.upd (zv_not s1 hl)) (.dK upd_same .nil) q
end
end DD
/-! The Deep layer, 10: comprehensions whose items are only known by a property. -/
namespace DD
open PySem PySem.Spec PyProof.Rows L2
/-- what a comprehension does with the items ds -/
def LcIn (wg : En → PyData → (En → Prop) → Prop) (wt : WT) (we' : WE) (vs : List Nat) (en : En) (P : List PyData → Nat → Prop) (ds : List PyData) (n : Nat) : Prop :=
  ∃ I : Nat → List PyData → Nat → Prop, I 0 [] n ∧ (∀ (k : Nat) (d : PyData) (acc : List PyData) (n1 : Nat), ds[k]? = some d → I k acc n1 → wg (wipeE ⟨en.s, n1⟩ vs) d fun en2 => wt en2 fun b n2 => if b = true then we' ⟨en2.s, n2⟩ fun r n3 => acc.length < 100000 ∧ I (k + 1) (acc ++ [r]) n3 else I (k + 1) acc n2) ∧ ∀ acc n1, I ds.length acc n1 → P acc n1
theorem wLc_def {ws : WA} {wg : En → PyData → (En → Prop) → Prop} {wt : WT} {we' : WE} {vs : List Nat} {en : En} {P : List PyData → Nat → Prop} : wLc ws wg wt we' vs en P = ws en (LcIn wg wt we' vs en P) := rfl
/-- what a for-loop does with the items ds -/
def ForIn (wg : En → PyData → (En → Prop) → Prop) (wb : WS) (P : DEn) (en : En) (ds : List PyData) (n : Nat) : Prop :=
  ∃ I : Nat → En → Prop, I 0 ⟨en.s, n⟩ ∧ (∀ (k : Nat) (d : PyData) (en' : En), ds[k]? = some d → I k en' → wg en' d fun en2 => wb { nx := I (k + 1), ct := I (k + 1), bk := P.nx, rt := P.rt } en2) ∧ ∀ en', I ds.length en' → P.nx en'
theorem wFor_def {ws : WA} {wg : En → PyData → (En → Prop) → Prop} {wb : WS} {en : En} {P : DEn} : wFor ws wg wb P en = ws en (ForIn wg wb P en) := rfl
/-- every item has p; each draws at most c -/
theorem lci_pred {wg : En → PyData → (En → Prop) → Prop} {we' : WE} {vs : List Nat} {en : En} {P : List PyData → Nat → Prop} {ds : List PyData} {n : Nat} (p : PyData → Prop) (c : Nat) (hl : ds.length ≤ 100000)
    (hs : ∀ (k : Nat) (d : PyData) (n1 : Nat) (Q : PyData → Nat → Prop), k < ds.length → ds[k]? = some d → n1 ≤ n + k * c → (∀ r n3, p r → n3 ≤ n1 + c → Q r n3) → wg (wipeE ⟨en.s, n1⟩ vs) d fun en2 => we' ⟨en2.s, en2.n⟩ Q)
    (hp : ∀ rs n', rs.length = ds.length → (∀ r ∈ rs, p r) → n' ≤ n + ds.length * c → P rs n') : LcIn wg wYes we' vs en P ds n := by
  refine ⟨fun k acc n1 => acc.length = k ∧ k ≤ ds.length ∧ (∀ r ∈ acc, p r) ∧ n1 ≤ n + k * c, ⟨rfl, Nat.zero_le _, by simp, by omega⟩, fun k d acc n1 hk ⟨h1, h2, h3, h4⟩ => ?_, fun acc n1 ⟨h1, _, h3, h4⟩ => hp acc n1 h1 h3 h4⟩
  have hkl : k < ds.length := (List.getElem?_eq_some_iff.mp hk).1
  have key := hs k d n1 (fun r n3 => acc.length < 100000 ∧ ((acc ++ [r]).length = k + 1 ∧ k + 1 ≤ ds.length ∧ (∀ r' ∈ acc ++ [r], p r') ∧ n3 ≤ n + (k + 1) * c)) hkl hk h4 fun r n3 hr hn => ⟨by omega, by simp [h1], hkl, fun r' hr' => by
    rcases List.mem_append.mp hr' with h | h
    · exact h3 r' h
    · rw [List.mem_singleton.mp h]; exact hr, by rw [Nat.add_mul]; omega⟩
  simpa using key
/-- with an if: every item that stays has p -/
theorem lci_predF {wg : En → PyData → (En → Prop) → Prop} {wt : WT} {we' : WE} {vs : List Nat} {en : En} {P : List PyData → Nat → Prop} {ds : List PyData} {n : Nat} (p : PyData → Prop) (c : Nat) (hl : ds.length ≤ 100000)
    (hs : ∀ (k : Nat) (d : PyData) (n1 : Nat) (Q : PyData → Nat → Prop) (R : Nat → Prop), k < ds.length → ds[k]? = some d → n1 ≤ n + k * c → (∀ r n3, p r → n3 ≤ n1 + c → Q r n3) → (∀ n3, n3 ≤ n1 + c → R n3) → wg (wipeE ⟨en.s, n1⟩ vs) d fun en2 => wt en2 fun b n2 => if b = true then we' ⟨en2.s, n2⟩ Q else R n2)
    (hp : ∀ rs n', rs.length ≤ ds.length → (∀ r ∈ rs, p r) → n' ≤ n + ds.length * c → P rs n') : LcIn wg wt we' vs en P ds n := by
  refine ⟨fun k acc n1 => acc.length ≤ k ∧ k ≤ ds.length ∧ (∀ r ∈ acc, p r) ∧ n1 ≤ n + k * c, ⟨by simp, Nat.zero_le _, by simp, by omega⟩, fun k d acc n1 hk ⟨h1, h2, h3, h4⟩ => ?_, fun acc n1 ⟨h1, _, h3, h4⟩ => hp acc n1 h1 h3 h4⟩
  have hkl : k < ds.length := (List.getElem?_eq_some_iff.mp hk).1
  refine hs k d n1 _ _ hkl hk h4 (fun r n3 hr hn => ⟨by omega, by simp; omega, hkl, fun r' hr' => ?_, by rw [Nat.add_mul]; omega⟩) fun n3 hn => ⟨by omega, hkl, h3, by rw [Nat.add_mul]; omega⟩
  rcases List.mem_append.mp hr' with h | h
  · exact h3 r' h
  · rw [List.mem_singleton.mp h]; exact hr
theorem lci_map {wg : En → PyData → (En → Prop) → Prop} {we' : WE} {vs : List Nat} {en : En} {P : List PyData → Nat → Prop} {ds : List PyData} {n : Nat} (g : PyData → PyData) (hl : ds.length ≤ 100000)
    (hs : ∀ d ∈ ds, ∀ (n1 : Nat) (Q : PyData → Nat → Prop), Q (g d) n1 → wg (wipeE ⟨en.s, n1⟩ vs) d fun en2 => we' ⟨en2.s, en2.n⟩ Q) (hp : P (ds.map g) n) : LcIn wg wYes we' vs en P ds n := lc_map (ws := fun _ R => R ds n) ds n (fun R h => h) g hl hs hp
/-- with an if -/
theorem lci_filter {wg : En → PyData → (En → Prop) → Prop} {wt : WT} {we' : WE} {vs : List Nat} {en : En} {P : List PyData → Nat → Prop} {ds : List PyData} {n : Nat} (t : PyData → Bool) (g : PyData → PyData) (hl : ds.length ≤ 100000)
    (hs : ∀ d ∈ ds, ∀ (n1 : Nat) (Q : PyData → Nat → Prop) (R : Nat → Prop), (t d = true → Q (g d) n1) → (t d = false → R n1) → wg (wipeE ⟨en.s, n1⟩ vs) d fun en2 => wt en2 fun b n2 => if b = true then we' ⟨en2.s, n2⟩ Q else R n2) (hp : P ((ds.filter t).map g) n) : LcIn wg wt we' vs en P ds n := by
  refine ⟨fun k acc n1 => acc = ((ds.take k).filter t).map g ∧ n1 = n ∧ k ≤ ds.length, ⟨by simp, rfl, Nat.zero_le _⟩, fun k d acc n1 hk ⟨ha, hn, hle⟩ => ?_, fun acc n1 ⟨ha, hn, _⟩ => ?_⟩
  · subst hn
    have hm : d ∈ ds := List.mem_of_getElem? hk
    have hkl : k < ds.length := (List.getElem?_eq_some_iff.mp hk).1
    have tk : ds.take (k + 1) = ds.take k ++ [d] := by rw [List.take_add_one, hk]; rfl
    have hal : acc.length < 100000 := by
      rw [ha, List.length_map]
      have := List.length_filter_le t (ds.take k)
      rw [List.length_take] at this
      omega
    refine hs d hm n1 _ _ (fun ht => ⟨hal, ?_, rfl, hkl⟩) (fun ht => ⟨?_, rfl, hkl⟩)
    · rw [tk, List.filter_append, List.map_append, ← ha]; simp [ht]
    · rw [tk, List.filter_append, List.map_append, ← ha]; simp [ht]
  · subst hn
    rw [ha, List.take_length]
    exact hp
@[simp] theorem rgD_size (i : Int) (m : Nat) : (rgD i m).length = m := rgD_len i m
end DD
/-! The Deep layer, 11: dicts of a def's own, what is stored and found in dicts. -/
namespace DD
open PySem PySem.Spec PyProof.Rows L2
open Evl (Ex)
/-! ### dicts as data -/
def keyT : PyData → Bool
  | .tuple ks => ks.all keyA
  | _ => false
open Classical in
noncomputable def putE (es : List (PyData × PyData)) (k d : PyData) : List (PyData × PyData) := if (es.any fun p => decide (p.1 = k)) = true then es.map (fun p => if p.1 = k then (p.1, d) else p) else es ++ [(k, d)]
open Classical in
noncomputable def lookE (es : List (PyData × PyData)) (k : PyData) : Option PyData := (es.find? fun p => decide (p.1 = k)).map (·.2)
theorem putE_len (es : List (PyData × PyData)) (k d : PyData) : (putE es k d).length ≤ es.length + 1 := by
  unfold putE
  split
  · simp
  · simp
theorem putE_mem {es : List (PyData × PyData)} {k d : PyData} {p : PyData × PyData} (h : p ∈ putE es k d) : p = (k, d) ∨ p ∈ es := by
  unfold putE at h
  split at h
  · obtain ⟨q, hq, e⟩ := List.mem_map.mp h
    by_cases c : q.1 = k
    · rw [if_pos c] at e; exact .inl (by rw [← e, c])
    · rw [if_neg c] at e; exact .inr (e ▸ hq)
  · rcases List.mem_append.mp h with h | h
    · exact .inr h
    · exact .inl (List.mem_singleton.mp h)
theorem lookE_mem {es : List (PyData × PyData)} {k d : PyData} (h : lookE es k = some d) : (k, d) ∈ es := by
  unfold lookE at h
  cases e : es.find? fun p => @decide (p.1 = k) (Classical.propDecidable _) with
  | none => rw [e] at h; cases h
  | some p =>
    rw [e] at h
    cases h
    have h1 := List.find?_some e
    have h2 := List.mem_of_find?_eq_some e
    have h3 : p.1 = k := by simpa using h1
    rw [← h3]
    exact h2
theorem lookE_of {es : List (PyData × PyData)} {k : PyData} (h : k ∈ es.map (·.1)) : ∃ d, lookE es k = some d ∧ (k, d) ∈ es := by
  obtain ⟨p, hp, e⟩ := List.mem_map.mp h
  cases q : lookE es k with
  | some d => exact ⟨d, rfl, lookE_mem q⟩
  | none =>
    unfold lookE at q
    rw [Option.map_eq_none_iff, List.find?_eq_none] at q
    have := q p hp
    simp [e] at this
theorem lookE_nil (k : PyData) : lookE [] k = none := rfl
theorem lookE_pos {p : PyData × PyData} {r : List (PyData × PyData)} {k : PyData} (e : p.1 = k) : lookE (p :: r) k = some p.2 := by simp [lookE, List.find?_cons, e]
theorem lookE_neg {p : PyData × PyData} {r : List (PyData × PyData)} {k : PyData} (e : ¬ p.1 = k) : lookE (p :: r) k = lookE r k := by simp [lookE, List.find?_cons, e]
theorem keyD_inj {a b : Key} (e : keyD a = keyD b) : a = b := by
  cases a <;> cases b <;> simp [keyD] at e <;> rw [e]
theorem keyDs_inj : ∀ {a b : List Key}, a.map keyD = b.map keyD → a = b
  | [], [], _ => rfl
  | [], _ :: _, e => by simp at e
  | _ :: _, [], e => by simp at e
  | x :: xs, y :: ys, e => by
    rw [List.map_cons, List.map_cons] at e
    injection e with e1 e2
    rw [keyD_inj e1, keyDs_inj e2]
theorem keyA_of {d : PyData} (h : keyA d = true) : ∃ k : Key, d = keyD k := by
  cases d <;> first | exact ⟨.inl _, rfl⟩ | exact ⟨.inr _, rfl⟩ | cases h
theorem keyAs_of {ds : List PyData} (h : ds.all keyA = true) : ∃ ks : List Key, ds = ks.map keyD := by
  induction ds with
  | nil => exact ⟨[], rfl⟩
  | cons d ds ih =>
    rw [List.all_cons, Bool.and_eq_true] at h
    obtain ⟨k, rfl⟩ := keyA_of h.1
    obtain ⟨ks, rfl⟩ := ih h.2
    exact ⟨k :: ks, rfl⟩
theorem keyT_of {d : PyData} (h : keyT d = true) : ∃ ks : List Key, d = .tuple (ks.map keyD) := by
  cases d with
  | tuple ds => obtain ⟨ks, rfl⟩ := keyAs_of (by simpa [keyT] using h); exact ⟨ks, rfl⟩
  | _ => cases h
theorem keyA_D (k : Key) : keyA (keyD k) = true := by cases k <;> rfl
theorem keyT_D (ks : List Key) : keyT (.tuple (ks.map keyD)) = true := by simp [keyT, keyA_D]
theorem rp_key {F : Hp} {v : V} {k : Key} (r : Rp F v (keyD k)) : v = kV k := by
  cases k with
  | inl i => cases r; rfl
  | inr x => cases r; rfl
theorem rpA_keys {F : Hp} : ∀ {vs : List V} {ks : List Key}, RpA F vs (ks.map keyD) → vs = ks.map kV
  | [], [], _ => rfl
  | [], _ :: _, r => by cases r
  | _ :: _, [], r => by cases r
  | v :: vs, k :: ks, r => by
    cases r with
    | cons h r => rw [rp_key h, rpA_keys r]; rfl
theorem RpK.keys {F : Hp} : ∀ {kvs : List (Key × V)} {es : List (PyData × PyData)}, RpK F kvs es → es.map (·.1) = kvs.map fun p => keyD p.1
  | _, _, .nil => rfl
  | _, _, .cons h r => by rw [List.map_cons, List.map_cons, r.keys]
theorem RpT.keys {F : Hp} : ∀ {kvs : List (List Key × V)} {es : List (PyData × PyData)}, RpT F kvs es → es.map (·.1) = kvs.map fun p => .tuple (p.1.map keyD)
  | _, _, .nil => rfl
  | _, _, .cons h r => by rw [List.map_cons, List.map_cons, r.keys]
theorem RpK.length {F : Hp} {kvs : List (Key × V)} {es : List (PyData × PyData)} (r : RpK F kvs es) : kvs.length = es.length := by
  have := congrArg List.length r.keys
  simpa using this.symm
theorem RpT.length {F : Hp} {kvs : List (List Key × V)} {es : List (PyData × PyData)} (r : RpT F kvs es) : kvs.length = es.length := by
  have := congrArg List.length r.keys
  simpa using this.symm
theorem RpK.look {F : Hp} {k : Key} : ∀ {kvs : List (Key × V)} {es : List (PyData × PyData)}, RpK F kvs es → (valV kvs k = none ∧ lookE es (keyD k) = none) ∨ ∃ v d, valV kvs k = some v ∧ lookE es (keyD k) = some d ∧ Rp F v d
  | _, _, .nil => .inl ⟨rfl, rfl⟩
  | _, _, .cons (k := j) h r => by
    by_cases c : j = k
    · exact .inr ⟨_, _, valV_pos c, lookE_pos (by rw [c]), h⟩
    · rcases r.look (k := k) with ⟨a, b⟩ | ⟨v, d, a, b, q⟩
      · exact .inl ⟨(valV_neg (p := (j, _)) c).trans a, (lookE_neg (p := (keyD j, _)) fun e => c (keyD_inj e)).trans b⟩
      · exact .inr ⟨v, d, (valV_neg (p := (j, _)) c).trans a, (lookE_neg (p := (keyD j, _)) fun e => c (keyD_inj e)).trans b, q⟩
theorem tupD_inj {a b : List Key} (e : PyData.tuple (a.map keyD) = .tuple (b.map keyD)) : a = b := keyDs_inj (by injection e)
theorem RpT.look {F : Hp} {k : List Key} : ∀ {kvs : List (List Key × V)} {es : List (PyData × PyData)}, RpT F kvs es → (valV kvs k = none ∧ lookE es (.tuple (k.map keyD)) = none) ∨ ∃ v d, valV kvs k = some v ∧ lookE es (.tuple (k.map keyD)) = some d ∧ Rp F v d
  | _, _, .nil => .inl ⟨rfl, rfl⟩
  | _, _, .cons (k := j) h r => by
    by_cases c : j = k
    · exact .inr ⟨_, _, valV_pos c, lookE_pos (by rw [c]), h⟩
    · rcases r.look (k := k) with ⟨a, b⟩ | ⟨v, d, a, b, q⟩
      · exact .inl ⟨(valV_neg (p := (j, _)) c).trans a, (lookE_neg (p := (.tuple (j.map keyD), _)) fun e => c (tupD_inj e)).trans b⟩
      · exact .inr ⟨v, d, (valV_neg (p := (j, _)) c).trans a, (lookE_neg (p := (.tuple (j.map keyD), _)) fun e => c (tupD_inj e)).trans b, q⟩
theorem RpK.any {F : Hp} {k : Key} : ∀ {kvs : List (Key × V)} {es : List (PyData × PyData)}, RpK F kvs es → (kvs.any fun p => decide (p.1 = k)) = (es.any fun p => @decide (p.1 = keyD k) (Classical.propDecidable _))
  | _, _, .nil => rfl
  | _, _, .cons h r => by
    rw [List.any_cons, List.any_cons, r.any]
    congr 1
    exact decide_eq_decide.mpr ⟨fun e => congrArg keyD e, fun e => keyD_inj e⟩
theorem RpT.any {F : Hp} {k : List Key} : ∀ {kvs : List (List Key × V)} {es : List (PyData × PyData)}, RpT F kvs es → (kvs.any fun p => decide (p.1 = k)) = (es.any fun p => @decide (p.1 = .tuple (k.map keyD)) (Classical.propDecidable _))
  | _, _, .nil => rfl
  | _, _, .cons h r => by
    rw [List.any_cons, List.any_cons, r.any]
    congr 1
    exact decide_eq_decide.mpr ⟨fun e => congrArg (fun q : List Key => PyData.tuple (q.map keyD)) e, fun e => tupD_inj e⟩
theorem RpK.mapPut {F : Hp} {k : Key} {v : V} {d : PyData} (rv : Rp F v d) : ∀ {kvs : List (Key × V)} {es : List (PyData × PyData)}, RpK F kvs es → RpK F (kvs.map fun p => if p.1 = k then (p.1, v) else p) (es.map fun p => @ite _ (p.1 = keyD k) (Classical.propDecidable _) (p.1, d) p)
  | _, _, .nil => .nil
  | _, _, .cons (k := j) h r => by
    rw [List.map_cons, List.map_cons]
    by_cases c : j = k
    · rw [if_pos c, if_pos (by rw [c])]; exact .cons rv (r.mapPut rv)
    · rw [if_neg c, if_neg (fun e => c (keyD_inj e))]; exact .cons h (r.mapPut rv)
theorem RpT.mapPut {F : Hp} {k : List Key} {v : V} {d : PyData} (rv : Rp F v d) : ∀ {kvs : List (List Key × V)} {es : List (PyData × PyData)}, RpT F kvs es → RpT F (kvs.map fun p => if p.1 = k then (p.1, v) else p) (es.map fun p => @ite _ (p.1 = .tuple (k.map keyD)) (Classical.propDecidable _) (p.1, d) p)
  | _, _, .nil => .nil
  | _, _, .cons (k := j) h r => by
    rw [List.map_cons, List.map_cons]
    by_cases c : j = k
    · rw [if_pos c, if_pos (by rw [c])]; exact .cons rv (r.mapPut rv)
    · rw [if_neg c, if_neg (fun e => c (tupD_inj e))]; exact .cons h (r.mapPut rv)
theorem RpK.snoc {F : Hp} {k : Key} {v : V} {d : PyData} (rv : Rp F v d) : ∀ {kvs : List (Key × V)} {es : List (PyData × PyData)}, RpK F kvs es → RpK F (kvs ++ [(k, v)]) (es ++ [(keyD k, d)])
  | _, _, .nil => .cons rv .nil
  | _, _, .cons h r => .cons h (r.snoc rv)
theorem RpT.snoc {F : Hp} {k : List Key} {v : V} {d : PyData} (rv : Rp F v d) : ∀ {kvs : List (List Key × V)} {es : List (PyData × PyData)}, RpT F kvs es → RpT F (kvs ++ [(k, v)]) (es ++ [(.tuple (k.map keyD), d)])
  | _, _, .nil => .cons rv .nil
  | _, _, .cons h r => .cons h (r.snoc rv)
theorem RpK.put {F : Hp} {k : Key} {v : V} {d : PyData} (rv : Rp F v d) {kvs : List (Key × V)} {es : List (PyData × PyData)} (r : RpK F kvs es) : RpK F (putK kvs k v) (putE es (keyD k) d) := by
  unfold putK putE
  rw [r.any]
  split
  · exact r.mapPut rv
  · exact r.snoc rv
theorem RpT.put {F : Hp} {k : List Key} {v : V} {d : PyData} (rv : Rp F v d) {kvs : List (List Key × V)} {es : List (PyData × PyData)} (r : RpT F kvs es) : RpT F (putK kvs k v) (putE es (.tuple (k.map keyD)) d) := by
  unfold putK putE
  rw [r.any]
  split
  · exact r.mapPut rv
  · exact r.snoc rv
theorem putK_ne {κ : Type} [DecidableEq κ] {kvs : List (κ × V)} {k : κ} {v : V} : putK kvs k v ≠ [] := by
  unfold putK
  split
  · rename_i h
    intro q
    rw [List.map_eq_nil_iff] at q
    rw [q] at h
    cases h
  · simp
/-! ### an empty dict is of either kind -/
theorem inv_retag {X : Cx} {pins : List (Addr × Obj)} {σ : L2.St} {H : Hp} {s : Shared} {a : Addr} (I : Inv X pins σ H s) (e : H a = some (.dK [])) : Inv X pins σ (L2.upd H a (.dT [])) s := by
  obtain ⟨z, hd, vs, rel, o, es, ep, h1, h2, h3, h4, h5, h6⟩ := dk_of I.hok e
  cases rel
  have e0 : es.toList = [] := by
    cases q : es.toList with
    | nil => rfl
    | cons x xs => rw [q] at h5; cases h5
  have := d_write (t' := s.toks) (h' := s.heap) (ob := .dT []) I (by rw [e]; exact True.intro) ⟨rfl, fun _ _ => rfl⟩ ⟨o, h1⟩ ⟨Nat.zero_le _, hd, [], .nil, o, es, ep, h1, h2, h3, by rw [e0]; rfl, List.nodup_nil⟩
  exact this
/-- the heap behind a[y] = v, an empty dict of either kind -/
def DPutE (H : Hp) (a : Addr) (y v : V) (H' : Hp) : Prop := DPut H a y v H' ∨ H a = some (.dK []) ∧ DPut (L2.upd H a (.dT [])) a y v H'
def tDSet (td ty tv : TE) : TS := fun D σ H => tv σ H fun v H1 => td σ H1 fun x H2 => ty σ H2 fun y H3 => ∃ a H4, x = .ref a ∧ DPutE H3 a y v H4 ∧ D.nx σ H4
theorem ps_dset {X : Cx} {o i value : Expr} {td ty tv : TE} {pos pos' : Pos} (hu : X.A.units + 1 < cLine) (ho : PE X o td) (hi : PE X i ty) (hv : PE X value tv) (hs : swapsWith value (some (.Subscript o i pos')) pos.line X.env = pure false) :
    PS X (.Assign [.Subscript o i pos'] value pos) (tDSet td ty tv) := by
  refine ⟨fun pins s σ H D I h => ?_⟩
  refine wpAny_Assign_Subscript (thn (hv.run pins s σ H _ I h) fun r sa ⟨v, Ha, Ia, rv, qa⟩ => thn (ho.run pins sa σ Ha _ Ia qa) fun u sb ⟨x, Hb, Ib, rx, qb⟩ => thn (hi.run pins sb σ Hb _ Ib qb) fun iv sc ⟨y, Hc, Ic, ry, a, Hd, ex, g, qc⟩ => ?_) hs
  subst ex
  obtain rfl : u = Value.ref a := rx
  rcases g with g | ⟨e, g⟩
  · exact d_setItem hu Ic g ry rv fun sd Id => ⟨σ, Hd, Id, qc⟩
  · exact d_setItem hu (inv_retag Ic e) g ry rv fun sd Id => ⟨σ, Hd, Id, qc⟩
/-! ### an object of the def's own, or a value -/
abbrev WO := En → (S → Nat → Prop) → Prop
theorem SR.base {z : Zn} {B F H : Hp} {v : V} {u : S} (h : SR z (fun _ => none) F H (some v) u) (k : u.owns = true → ∀ l, v = .ref l → B l = none) : SR z B F H (some v) u := by
  cases u with
  | own ds => obtain ⟨l, xs, e, h1, h2, h3, h4, _⟩ := h; exact ⟨l, xs, e, h1, h2, h3, h4, k rfl l (Option.some.inj e)⟩
  | ownD es => obtain ⟨l, e, h1, h2, h3, _⟩ := h; exact ⟨l, e, h1, h2, h3, k rfl l (Option.some.inj e)⟩
  | _ => exact h
theorem SR.there {z : Zn} {B F H : Hp} {l : Addr} {u : S} (h : SR z B F H (some (.ref l)) u) (o : u.owns = true) : H l ≠ none := by
  cases u with
  | own ds => obtain ⟨m, xs, e, h1, h2, h3, h4, _⟩ := h; cases e; rw [h3]; simp
  | ownD es => obtain ⟨m, e, h1, h2, h3, _⟩ := h; cases e; exact h3.there
  | _ => exact absurd o Bool.false_ne_true
def DenU (z : Zn) (t : TE) (w : WO) : Prop := ∀ (B : Hp) (σ : L2.St) (H F : Hp) (en : En), Sit z B σ H F en → ∀ (P : S → Nat → Prop) (Q : VK), w en P →
  (∀ v H' F' u n', Grow z F H F' H' → Stm z n' H' → SR z (fun _ => none) F' H' (some v) u → (u.owns = true → ∀ l, v = .ref l → H l = none) → P u n' → Q v H') → t σ H Q
structure JU (z : Zn) (X : Cx) (e : Expr) (t : TE) (w : WO) : Prop where
  pe : PE X e t
  de : DenU z t w
theorem Sit.setU {z : Zn} {B : Hp} {σ : L2.St} {H F : Hp} {en : En} {v : V} {u : S} (t : Sit z B σ H F en) (i : Nat) (ou : SR z B F H (some v) u)
    (hn : u.owns = true → ∀ (l : Addr), v = .ref l → ∀ (j : Nat) (b : S), j ≠ i → en.s[j]? = some b → b.owns = true → σ[j]? ≠ some (some (V.ref l))) : Sit z B (σ.set i (some v)) H F ⟨en.s.set i u, en.n⟩ where
  sub := t.sub
  stm := t.stm
  off := t.off
  len := by simpa using t.len
  slot := fun j x e => by
    by_cases hj : i = j
    · subst hj
      have hl : i < en.s.length := by
        have := (List.getElem?_eq_some_iff.mp e).1
        simpa using this
      rw [List.getElem?_set_self hl] at e
      cases e
      exact ⟨some v, by rw [List.getElem?_set_self (by rw [t.len]; exact hl)], ou⟩
    · rw [List.getElem?_set_ne hj] at e ⊢
      exact t.slot j x e
  sep := fun j k x y m hjk e1 e2 o1 o2 e3 => by
    by_cases hj : i = j
    · subst hj
      have hl : i < σ.length := by
        have := (List.getElem?_eq_some_iff.mp e3).1
        simpa using this
      have hle : i < en.s.length := by rw [← t.len]; exact hl
      simp only [List.getElem?_set_self hl] at e3
      simp only [List.getElem?_set_self hle] at e1
      cases e1
      simp only [List.getElem?_set_ne hjk] at e2 ⊢
      exact hn o1 m (Option.some.inj (Option.some.inj e3)) k y (Ne.symm hjk) e2 o2
    · simp only [List.getElem?_set_ne hj] at e1 e3
      by_cases hk : i = k
      · subst hk
        have hl : i < en.s.length := by
          have := (List.getElem?_eq_some_iff.mp e2).1
          simpa using this
        simp only [List.getElem?_set_self hl] at e2
        cases e2
        simp only [List.getElem?_set_self (show i < σ.length by rw [t.len]; exact hl)]
        intro q
        exact hn o2 m (Option.some.inj (Option.some.inj q)) j x hjk e1 o1 e3
      · simp only [List.getElem?_set_ne hk] at e2 ⊢
        exact t.sep j k x y m hjk e1 e2 o1 o2 e3
section
variable {z : Zn} {X : Cx} {e a b c : Expr} {t ta tb tc : TE} {pos p : Pos}
@[simp] def wV (w : WE) : WO := fun en P => w en fun d n => P (.val d) n
theorem JE.ju {w : WE} (h : JE z X e t w) : JU z X e t (wV w) where
  pe := h.pe
  de := fun B σ H F en s P Q hw k => h.de B σ H F en s _ _ hw fun v H1 F1 d n1 g1 s1 r1 q1 => k v H1 F1 (.val d) n1 g1 s1 ⟨v, rfl, r1⟩ (fun o => absurd o Bool.false_ne_true) q1
@[simp] def wOwn (w : WA) : WO := fun en P => w en fun ds n => P (.own ds) n
theorem JL.ju {w : WA} (h : JL z X e t w) : JU z X e t (wOwn w) where
  pe := h.pe
  de := fun B σ H F en s P Q hw k => h.de B σ H F en s _ _ hw fun l xs H1 F1 ds n1 g1 s1 hl hf hx r1 q1 => k (.ref l) H1 F1 (.own ds) n1 g1 s1 ⟨l, xs, rfl, hf, fun q => s.stm.there q hl, hx, r1, rfl⟩ (fun _ m q => by cases q; exact hl) q1
@[simp] def wOwnD : WO := fun en P => P (.ownD []) en.n
theorem ju_dict0 : JU z X (.Dict [] [] pos) tDNewK wOwnD where
  pe := pe_dnewK
  de := fun B σ H F en s P Q hw k => by
    intro l hl
    have hf : F l = none := none_of_sub s.sub hl
    exact k (.ref l) _ F (.ownD []) en.n (Grow.fresh s.sub hl) (s.stm.upd (zv_not s.stm hl)) ⟨l, rfl, hf, zv_not s.stm hl, .inl ⟨[], upd_same, .nil⟩, rfl⟩ (fun _ m q => by cases q; exact hl) hw
/-- x = e, own or a value -/
@[simp] def wAsgO (w : WO) (i : Nat) : WS := fun P en => w en fun u n => P.nx ⟨en.s.set i u, n⟩
theorem den_asgO {w : WO} {i : Nat} (h : DenU z t w) : DenS z (tAsg t (gName i)) (wAsgO w i) := fun B F0 σ H F en D P s g0 hw k =>
  h B σ H F en s _ _ hw fun v H1 F1 u n1 g1 s1 r1 fr q1 =>
    k.nx _ H1 F1 _ ((s.grow g1 s1).setU i (r1.base fun o l e => g0.dom l (fr o l e)) fun o l e j b hj eb ob q => s.ownAt eb ob q (fr o l e)) (g0.trans g1) q1
theorem js_asgO {x : Str} {pos' : Pos} {w : WO} (i : Nat) (hN : X.N.Nodup) (hi : X.N[i]? = some x) (hx : Loc X.env.scope x) (h : JU z X e t w) (hs : swapsWith e (some (.Name x pos')) pos.line X.env = pure false := by rfl)
    (hf : X.fn x = true ∨ X.env.scope.names.lookup x = some .local := by first | exact .inl rfl | exact .inr rfl | assumption) : JS z X (.Assign [.Name x pos'] e pos) (tAsg t (gName i)) (wAsgO w i) := ⟨ps_set hN hi hx h.pe hs hf, den_asgO h.de⟩
theorem own_apart {z : Zn} {B : Hp} {σ : L2.St} {H F : Hp} {en : En} {i : Nat} {v : V} {u : S} {l : Addr} {H0 : Hp} (hσ : i < σ.length) (he : i < en.s.length) (r1 : SR z (fun _ => none) F H0 (some v) u) (fr : H0 l = none) (s0 : ∀ (j : Nat) (b : S), en.s[j]? = some b → b.owns = true → σ[j]? ≠ some (some (V.ref l))) :
    ∀ (j : Nat) (b : S), (en.s.set i u)[j]? = some b → b.owns = true → (σ.set i (some v))[j]? ≠ some (some (V.ref l)) := fun j b h o q => by
  by_cases hj : i = j
  · subst hj
    rw [List.getElem?_set_self he] at h
    rw [List.getElem?_set_self hσ] at q
    cases h
    cases q
    exact r1.there o fr
  · rw [List.getElem?_set_ne hj] at h q
    exact s0 j b h o q
/-- x, y = a, b, each own or a value -/
@[simp] def wPar2 (i j : Nat) (w v : WO) : WS := fun P en => w en fun a n => v ⟨en.s, n⟩ fun b n' => P.nx ⟨(en.s.set i a).set j b, n'⟩
theorem sit_par2 {B F0 H F H1 F1 H2 F2 : Hp} {σ : L2.St} {en : En} {i j : Nat} {v1 v2 : V} {u1 u2 : S} {n1 n2 : Nat} (s : Sit z B σ H F en) (g0 : Grow z F0 B F H) (hi : i < en.s.length) (g1 : Grow z F H F1 H1) (g2 : Grow z F1 H1 F2 H2) (sm : Stm z n1 H1) (sm2 : Stm z n2 H2)
    (r1 : SR z (fun _ => none) F1 H1 (some v1) u1) (f1 : u1.owns = true → ∀ l, v1 = .ref l → H l = none) (r2 : SR z (fun _ => none) F2 H2 (some v2) u2) (f2 : u2.owns = true → ∀ l, v2 = .ref l → H1 l = none) :
    Sit z B ((σ.set i (some v1)).set j (some v2)) H2 F2 ⟨(en.s.set i u1).set j u2, n2⟩ := by
  have t0 := (s.grow g1 sm).grow g2 sm2
  have r1' : SR z (fun _ => none) F2 H2 (some v1) u1 := r1.grow g2
  have t1 : Sit z B (σ.set i (some v1)) H2 F2 ⟨en.s.set i u1, n2⟩ := t0.setU i (r1'.base fun o l e => g0.dom l (f1 o l e)) fun o l e j b hj eb ob q => s.ownAt eb ob q (f1 o l e)
  refine t1.setU j (r2.base fun o l e => g0.dom l (g1.dom l (f2 o l e))) fun o l e k b _ eb ob q => ?_
  have hs : i < σ.length := by rw [s.len]; exact hi
  exact own_apart (z := z) (B := B) (H := H) (F := F1) (en := en) hs hi r1 (f2 o l e) (fun m c ec oc qc => s.ownAt ec oc qc (g1.dom l (f2 o l e))) k b eb ob q
theorem len_of {B : Hp} {σ : L2.St} {H F : Hp} {en : En} {N : List Str} (s : Sit z B σ H F en) {i : Nat} {x : Str} (h : N[i]? = some x) (e : σ.length = N.length) : i < en.s.length := by
  rw [← s.len, e]
  exact (List.getElem?_eq_some_iff.mp h).1
@[simp] def wPar2L (i j : Nat) (w v : WO) : WS := fun P en => i < en.s.length ∧ wPar2 i j w v P en
theorem den_par2 {w v : WO} {i j : Nat} (ha : DenU z ta w) (hb : DenU z tb v) : DenS z (tPar i j (tCons ta (tCons tb tNil))) (wPar2L i j w v) := fun B F0 σ H F en D P s g0 hw k => by
  obtain ⟨hi, hw⟩ := hw
  refine ha B σ H F en s _ _ hw fun v1 H1 F1 u1 n1 g1 s1 r1 f1 q1 => ?_
  refine hb B σ H1 F1 _ (s.grow g1 s1) _ _ q1 fun v2 H2 F2 u2 n2 g2 s2 r2 f2 q2 => ?_
  exact ⟨_, _, rfl, k.nx _ H2 F2 _ (sit_par2 s g0 hi g1 g2 s1 s2 r1 f1 r2 f2) ((g0.trans g1).trans g2) q2⟩
@[simp] def wPar3L (i j l : Nat) (w v y : WO) : WS := fun P en => (i < en.s.length ∧ j < en.s.length) ∧ w en fun a n => v ⟨en.s, n⟩ fun b n' => y ⟨en.s, n'⟩ fun c n'' => P.nx ⟨((en.s.set i a).set j b).set l c, n''⟩
theorem den_par3 {w v y : WO} {i j l : Nat} (ha : DenU z ta w) (hb : DenU z tb v) (hc : DenU z tc y) : DenS z (tPar3 i j l (tCons ta (tCons tb (tCons tc tNil)))) (wPar3L i j l w v y) := fun B F0 σ H F en D P s g0 hw k => by
  obtain ⟨⟨hi, hj⟩, hw⟩ := hw
  refine ha B σ H F en s _ _ hw fun v1 H1 F1 u1 n1 g1 s1 r1 f1 q1 => ?_
  refine hb B σ H1 F1 _ (s.grow g1 s1) _ _ q1 fun v2 H2 F2 u2 n2 g2 s2 r2 f2 q2 => ?_
  refine hc B σ H2 F2 _ ((s.grow g1 s1).grow g2 s2) _ _ q2 fun v3 H3 F3 u3 n3 g3 s3 r3 f3 q3 => ?_
  have t2 := sit_par2 (j := j) s g0 hi g1 g2 s1 s2 r1 f1 r2 f2
  refine ⟨_, _, _, rfl, k.nx _ H3 F3 _ ((t2.grow g3 s3).setU l (r3.base fun o m e => g0.dom m (g1.dom m (g2.dom m (f3 o m e)))) fun o m e x b _ eb ob q => ?_) (((g0.trans g1).trans g2).trans g3) q3⟩
  exact t2.ownAt eb ob q (f3 o m e)
theorem js_par3 {w v u : WO} {x y r : Str} {px py pr pt : Pos} {kt k2 pt2} (ia ja la : Nat) (hN : X.N.Nodup) (hi : X.N[ia]? = some x) (hj : X.N[ja]? = some y) (hl : X.N[la]? = some r) (ha : JU z X a ta w) (hb : JU z X b tb v) (hcc : JU z X c tc u) (hij : ia ≠ ja := by decide) (hil : ia ≠ la := by decide) (hjl : ja ≠ la := by decide)
    (hx : X.env.scope.names.lookup x = some .local := by rfl) (hy : X.env.scope.names.lookup y = some .local := by rfl) (hr : X.env.scope.names.lookup r = some .local := by rfl) (hc : X.calm = true := by rfl)
    (h0 : starEach [c] X.env = (false, eval c X.env) :: starEach [] X.env := by rfl) (h1 : starEach [b, c] X.env = (false, eval b X.env) :: starEach [c] X.env := by rfl) (h2 : starEach [a, b, c] X.env = (false, eval a X.env) :: starEach [b, c] X.env := by rfl)
    (hw : swappedStores [.Tuple [.Name x px, .Name y py, .Name r pr] kt pt] (.Tuple [a, b, c] k2 pt2) X.env = pure (some [x, y, r]) := by rfl)
    (hs : swapsWithSole [.Tuple [.Name x px, .Name y py, .Name r pr] kt pt] (.Tuple [a, b, c] k2 pt2) pos.line X.env = pure false := by rfl) :
    JS z X (.Assign [.Tuple [.Name x px, .Name y py, .Name r pr] kt pt] (.Tuple [a, b, c] k2 pt2) pos) (tPar3 ia ja la (tCons ta (tCons tb (tCons tc tNil)))) (wPar3L ia ja la w v u) := ⟨ps_par3 hc hN hi hj hl hij hil hjl hx hy hr (pa_cons ha.pe (pa_cons hb.pe (pa_cons hcc.pe pa_nil h0) h1) h2) hw hs, den_par3 ha.de hb.de hcc.de⟩
theorem js_par2 {w v : WO} {x y : Str} {px py pt : Pos} {kt k2 pt2} (ia ja : Nat) (hN : X.N.Nodup) (hi : X.N[ia]? = some x) (hj : X.N[ja]? = some y) (ha : JU z X a ta w) (hb : JU z X b tb v) (hij : ia ≠ ja := by decide)
    (hx : X.env.scope.names.lookup x = some .local := by rfl) (hy : X.env.scope.names.lookup y = some .local := by rfl) (hc : X.calm = true := by rfl)
    (h1 : starEach [b] X.env = (false, eval b X.env) :: starEach [] X.env := by rfl) (h2 : starEach [a, b] X.env = (false, eval a X.env) :: starEach [b] X.env := by rfl)
    (hw : swappedStores [.Tuple [.Name x px, .Name y py] kt pt] (.Tuple [a, b] k2 pt2) X.env = pure (some [x, y]) := by rfl)
    (hs : swapsWithSole [.Tuple [.Name x px, .Name y py] kt pt] (.Tuple [a, b] k2 pt2) pos.line X.env = pure false := by rfl) :
    JS z X (.Assign [.Tuple [.Name x px, .Name y py] kt pt] (.Tuple [a, b] k2 pt2) pos) (tPar ia ja (tCons ta (tCons tb tNil))) (wPar2L ia ja w v) := ⟨ps_par hc hN hi hj hij hx hy (pa_cons ha.pe (pa_cons hb.pe pa_nil h1) h2) hw hs, den_par2 ha.de hb.de⟩
/-! ### own dicts in statements -/
theorem Sit.ownd {B : Hp} {σ : L2.St} {H F : Hp} {en : En} {i : Nat} {es : List (PyData × PyData)} (s : Sit z B σ H F en) (h : en.s[i]? = some (.ownD es)) :
    ∃ l, σ[i]? = some (some (.ref l)) ∧ F l = none ∧ ¬ Zv z l ∧ DAt F H l es ∧ B l = none := by
  obtain ⟨o, h1, l, rfl, h2, h3, h4, h5⟩ := s.slot i _ h
  exact ⟨l, h1, h2, h3, h4, h5⟩
theorem Sit.borrowD {B : Hp} {σ : L2.St} {H F : Hp} {en : En} {i : Nat} {es : List (PyData × PyData)} (s : Sit z B σ H F en) (h : en.s[i]? = some (.ownD es)) :
    ∃ l o, F l = none ∧ H l = some o ∧ B l = none ∧ Sit z B σ H (L2.upd F l o) ⟨en.s.set i (.val (.dict es)), en.n⟩ := by
  obtain ⟨l, h1, h2, h3, h4, h5⟩ := s.ownd h
  rcases h4 with ⟨kvs, e, r⟩ | ⟨kvs, e, n, r⟩
  · exact ⟨l, _, h2, e, h5, s.frz h rfl h1 h2 h3 e fun F' x q => .dK q (r.mono x)⟩
  · exact ⟨l, _, h2, e, h5, s.frz h rfl h1 h2 h3 e fun F' x q => .dT q n (r.mono x)⟩
theorem Grow.unborrowO {F H F' H' : Hp} {l : Addr} {o : HO} (hF : F l = none) (g : Grow z (L2.upd F l o) H F' H') : Grow z F H F H' where
  keep := g.keep
  dom := g.dom
  ext := Evl.Ex.refl F
  sub := fun b u h => g.sub b u (g.ext b u (by rw [upd_ne (ne_of_none h hF)]; exact h))
  new := fun b _ h => .inl h
@[simp] def wBorD (i : Nat) (w : WT) : WT := fun en P => ∃ es, en.s[i]? = some (.ownD es) ∧ w ⟨en.s.set i (.val (.dict es)), en.n⟩ P
theorem jt_borD {tt : TT} {w : WT} (i : Nat) (h : JT z X e tt w) : JT z X e tt (wBorD i w) where
  pt := h.pt
  de := fun B σ H F en s P Q hw k => by
    obtain ⟨es, h1, h2⟩ := hw
    obtain ⟨l, o, e2, e3, e4, s'⟩ := s.borrowD h1
    exact h.de B σ H _ _ s' _ _ h2 fun b H1 F1 n1 g1 s1 q1 => k b H1 F n1 (g1.unborrowO e2) s1 q1
@[simp] def wFrzD (i : Nat) (w : WS) : WS := fun P en => ∃ es, en.s[i]? = some (.ownD es) ∧ w P ⟨en.s.set i (.val (.dict es)), en.n⟩
theorem den_frzD {tt : TS} {w : WS} (i : Nat) (h : DenS z tt w) : DenS z tt (wFrzD i w) := fun B F0 σ H F en D P s g hw k => by
  obtain ⟨es, h1, h2⟩ := hw
  obtain ⟨l, o, e2, e3, e4, s'⟩ := s.borrowD h1
  exact h B F0 σ H _ _ D P s' (g.freeze e4 e3 e2) h2 k
theorem jss_frzD {rest : List Stmt} {tt : TS} {w : WS} (i : Nat) (h : JSs z X rest tt w) : JSs z X rest tt (wFrzD i w) := ⟨h.ps, den_frzD i h.de⟩
/-- x[k] = e, x an own dict -/
def okKey (es : List (PyData × PyData)) (k : PyData) : Bool := (keyA k && es.all fun p => keyA p.1) || (keyT k && es.all fun p => keyT p.1)
@[simp] def wPutD (i : Nat) (we wk : WE) : WS := fun P en => ∃ es, en.s[i]? = some (.ownD es) ∧ we en fun d n => wk ⟨en.s, n⟩ fun k n' => okKey es k = true ∧ es.length < 100000 ∧ P.nx ⟨en.s.set i (.ownD (putE es k d)), n'⟩
theorem den_putD {tv tk : TE} {we wk : WE} {i : Nat} (h : Den z tv we) (hk : Den z tk wk) : DenS z (tDSet (tVar i) tk tv) (wPutD i we wk) := fun B F0 σ H F en D P s g hw kk => by
  obtain ⟨es, hes, hw⟩ := hw
  refine h B σ H F en s _ _ hw fun v H1 F1 d n1 g1 s1 r1 q1 => ?_
  have sa := s.grow g1 s1
  obtain ⟨l, e1, e2, e3, e4, e5⟩ := sa.ownd hes
  refine ⟨.ref l, e1, ?_⟩
  refine hk B σ H1 F1 _ sa _ _ q1 fun y H2 F2 k n2 g2 s2 r2 q2 => ?_
  obtain ⟨ok, hl, q⟩ := q2
  have sb := sa.grow g2 s2
  have e2' : F2 l = none := e4.apart g2 e3 e2
  have rv := r1.mono g2.ext
  have fin : ∀ o : HO, DAt F2 (L2.upd H2 l o) l (putE es k d) → D.nx σ (L2.upd H2 l o) := fun o hd =>
    kk.nx σ _ F2 _ (sb.rewrite (u := .ownD (putE es k d)) hes rfl rfl e1 e2' e3 ⟨l, rfl, e2', e3, hd, e5⟩) (((g.trans g1).trans g2).wroteO e5 e2') q
  have e4' : DAt F2 H2 l es := e4.grow g2.ext fun o => g2.keep l o e3
  unfold okKey at ok
  rw [Bool.or_eq_true, Bool.and_eq_true, Bool.and_eq_true] at ok
  rcases ok with ⟨k1, k2⟩ | ⟨k1, k2⟩
  · obtain ⟨kk', rfl⟩ := keyA_of k1
    have ey := rp_key r2
    rcases e4' with ⟨kvs, a, r⟩ | ⟨kvs, a, n, r⟩
    · refine ⟨l, _, rfl, .inl (.inl ⟨kvs, kk', a, ey, Evl.sz_lt (by rw [r.length]; exact hl), rfl⟩), fin _ (.inl ⟨_, upd_same, r.put rv⟩)⟩
    · cases r with
      | nil => exact absurd rfl n
      | cons _ _ => simp [keyA] at k2
  · obtain ⟨ks, rfl⟩ := keyT_of k1
    cases r2 with
    | @tup b xs _ eb ra =>
      have ex := rpA_keys ra
      subst ex
      have hb : H2 b = some (.tup (ks.map kV)) := sb.sub b _ eb
      rcases e4' with ⟨kvs, a, r⟩ | ⟨kvs, a, n, r⟩
      · cases r with
        | nil =>
          have hbl : b ≠ l := fun q => by subst q; rw [a] at hb; cases hb
          have hput : DPut (L2.upd H2 l (.dT [])) l (.ref b) v (L2.upd (L2.upd H2 l (.dT [])) l (.dT (putK [] ks v))) := .inr ⟨[], ks, b, upd_same, rfl, by rw [upd_ne hbl]; exact hb, Evl.sz_lt (by show 0 < 100000; decide), rfl⟩
          have uu : L2.upd (L2.upd H2 l (.dT [])) l (.dT (putK [] ks v)) = L2.upd H2 l (.dT (putK [] ks v)) := by
            funext c
            by_cases hc : c = l
            · subst hc; rw [upd_same, upd_same]
            · rw [upd_ne hc, upd_ne hc, upd_ne hc]
          rw [uu] at hput
          exact ⟨l, _, rfl, .inr ⟨a, hput⟩, fin _ (.inr ⟨_, upd_same, putK_ne, RpT.put rv .nil⟩)⟩
        | cons h' r' => rename_i j _ _ _ _; cases j <;> simp [keyT, keyD] at k2
      · exact ⟨l, _, rfl, .inl (.inr ⟨kvs, ks, b, a, rfl, hb, Evl.sz_lt (by rw [r.length]; exact hl), rfl⟩), fin _ (.inr ⟨_, upd_same, putK_ne, r.put rv⟩)⟩
theorem js_putD {x : Str} {ix : Expr} {tk : TE} {we wk : WE} {p0 p1 : Pos} {k : Nat} (i : Nat) (hr : Room k X.A) (h : JE z X e t we) (hk : JE z X ix tk wk) (hN : X.N[i]? = some x := by rfl) (hv : Vis X.env.scope x := by first | exact Or.inl rfl | exact Or.inr (Or.inl rfl) | exact Or.inr (Or.inr rfl)) (hd : (x == ("__debug__" : Str)) = false := by decide)
    (hcd : (x == ("__classdict__" : Str)) = false := by decide) (hs : swapsWith e (some (.Subscript (.Name x p0) ix p1)) pos.line X.env = pure false := by rfl) :
    JS z X (.Assign [.Subscript (.Name x p0) ix p1] e pos) (tDSet (tVar i) tk t) (wPutD i we wk) where
  ps := ps_dset (by have := hr.units; omega) (pv i hN hv hd hcd) hk.pe h.pe hs
  de := den_putD h.de hk.de
/-! ### what is found in a dict -/
@[simp] def wGetD (wd wk : WE) : WE := fun en P => wd en fun d n => wk ⟨en.s, n⟩ fun k n' => ∃ es r, d = .dict es ∧ lookE es k = some r ∧ P r n'
theorem rp_dget {F H : Hp} {x y : V} {es : List (PyData × PyData)} {k d : PyData} (sub : Ex F H) (rx : Rp F x (.dict es)) (ry : Rp F y k) (h : lookE es k = some d) : ∃ a v, x = .ref a ∧ DGet H a y (some v) ∧ Rp F v d := by
  have hm := lookE_mem h
  cases rx with
  | @dK a kvs _ ea r =>
    have : k ∈ es.map (·.1) := List.mem_map.mpr ⟨_, hm, rfl⟩
    rw [r.keys] at this
    obtain ⟨p, _, e⟩ := List.mem_map.mp this
    subst e
    rw [rp_key ry]
    rcases r.look (k := p.1) with ⟨_, b⟩ | ⟨v, d', a1, a2, rv⟩
    · rw [b] at h; cases h
    · rw [a2] at h
      cases h
      exact ⟨a, v, rfl, a1 ▸ DGet.k (sub a _ ea), rv⟩
  | @dT a kvs _ ea n r =>
    have : k ∈ es.map (·.1) := List.mem_map.mpr ⟨_, hm, rfl⟩
    rw [r.keys] at this
    obtain ⟨p, _, e⟩ := List.mem_map.mp this
    subst e
    cases ry with
    | @tup b xs _ eb ra =>
      have ex := rpA_keys ra
      subst ex
      rcases r.look (k := p.1) with ⟨_, b'⟩ | ⟨v, d', a1, a2, rv⟩
      · rw [b'] at h; cases h
      · rw [a2] at h
        cases h
        exact ⟨a, v, rfl, a1 ▸ DGet.t (sub a _ ea) (sub b _ eb), rv⟩
theorem je_dget {o i : Expr} {td tk : TE} {wd wk : WE} {k : Nat} (hr : Room k X.A) (hd : JE z X o td wd) (hk : JE z X i tk wk) (hs : NoSl i := by intro _ _; rfl) : JE z X (.Subscript o i pos) (tDGet td tk) (wGetD wd wk) where
  pe := pe_dget (by have := hr.units; omega) hd.pe hk.pe hs
  de := fun B σ H F en s P Q hw kk => by
    refine hd.de B σ H F en s _ _ hw fun x H1 F1 d n1 g1 s1 r1 q1 => ?_
    refine hk.de B σ H1 F1 _ (s.grow g1 s1) _ _ q1 fun y H2 F2 k n2 g2 s2 r2 q2 => ?_
    obtain ⟨es, r, rfl, e, q⟩ := q2
    obtain ⟨a, v, ex, g, rv⟩ := rp_dget g2.sub (r1.mono g2.ext) r2 e
    exact ⟨a, v, ex, g, kk v H2 F2 r n2 (g1.trans g2) s2 rv q⟩
end
end DD
/-! The Deep layer, 12: the sorted keys of a dict. -/
namespace DD
open PySem PySem.Spec PyProof.Rows L2
open Evl (Ex)
open PySem.W (alike dataLt dataLe AllAlike Sortable EachIs)
def rSrtK (K : PySem.W.Frag) : List V → Hp → VK → Prop := fun vs H Q => ∃ (F : Hp) (a : Addr) (es : List (PyData × PyData)), vs = [V.ref a] ∧ Ex F H ∧ Rp F (.ref a) (.dict es) ∧ flatDs (es.map (·.1)) = true ∧ AllAlike (es.map (·.1)) ∧ Sortable (es.map (·.1)) ∧ (∀ d ∈ es.map (·.1), d.depth ≤ 60) ∧
  ∀ (G : Hp) (ys : List V) (p : Addr), Ex F G → Ex G H → (∀ b, F b = none → G b = none ∨ ∃ xs, G b = some (.tup xs)) → RpA G ys ((es.map (·.1)).mergeSort (dataLe false id)) → H p = none → Q (.ref p) (L2.upd H p (.lst ys))
theorem rpA_kV {F : Hp} : ∀ ks : List Key, RpA F (ks.map kV) (ks.map keyD)
  | [] => .nil
  | .inl i :: ks => .cons (.int i) (rpA_kV ks)
  | .inr x :: ks => .cons (.str x) (rpA_kV ks)
/-- the key tuples of a dict, known -/
def knowB (F H : Hp) (bs : List Addr) : Hp := fun b => if b ∈ bs then H b else F b
theorem keys_src {X : Cx} {pins : List (Addr × Obj)} {σ : L2.St} {F H : Hp} {s : Shared} {a : Addr} {es : List (PyData × PyData)} (hc : X.calm = true) (I : Inv X pins σ H s) (e : Ex F H) (r : Rp F (.ref a) (.dict es)) :
    ∃ (n : Nat) (P : Nat → Value → Prop) (OK : Heap → Prop), PySem.W.KdlSrc X.prog X.w "dict" a a n P OK ∧ OK s.heap ∧ n ≤ sizeLine ∧ (∃ o, s.heap.get? a = some o) ∧ ∀ acc : Array Value, ItemsOf P acc n →
      ∃ (G : Hp) (xs : List V), Vals xs acc.toList ∧ Ex F G ∧ Ex G H ∧ (∀ b, F b = none → G b = none ∨ ∃ ys, G b = some (.tup ys)) ∧ RpA G xs (es.map (·.1)) := by
  cases r with
  | @dK a kvs _ ea rk =>
    obtain ⟨zz, lo, vs, rel, dd⟩ := dk_of I.hok (e a _ ea)
    obtain ⟨ep, hat⟩ := dd.dictAt
    have hl : kvs.length = vs.length := rel.length
    refine ⟨_, _, _, PySem.W.kdl_dict (knd := mixKind X.prog X.w) (kvs := vs) (ep := ep) lo, hat, by omega, ?_, fun acc hacc => ?_⟩
    · obtain ⟨o, _, _, h1, _⟩ := dd
      exact ⟨o, h1⟩
    · have hv : Vals (vs.map fun p => kV p.1) acc.toList := keys_at (by rw [Array.length_toList]; exact hacc.1) fun j v q => hacc.2 j v (by rw [← Array.getElem?_toList]; exact q)
      refine ⟨F, _, hv, Evl.Ex.refl F, e, fun b hb => .inl hb, ?_⟩
      have e1 : (vs.map fun p => kV p.1) = (kvs.map (·.1)).map kV := by rw [rel.keys, List.map_map]; rfl
      have e2 : es.map (·.1) = (kvs.map (·.1)).map keyD := by rw [rk.keys, List.map_map]; rfl
      rw [e1, e2]
      exact rpA_kV _
  | @dT a kvs _ ea n0 rt =>
    obtain ⟨zz, hs, ks, pr, o, des, ep, ho, hx, hdt, he, hn⟩ := (show ObjOk X.prog X.w H s.heap a (.dT kvs) from I.hok a _ (e a _ ea))
    have l1 : des.size = ks.length := size_of_entries he
    have l2 : kvs.length = ks.length := Paired.length pr
    refine ⟨_, _, _, kdl_raw hs hx hdt, ho, by omega, ⟨o, ho⟩, fun acc it => ?_⟩
    have eb : acc.toList = (ks.map fun x => x.2.1).map Value.ref := by
      have hl : acc.toList.length = ks.length := by rw [Array.length_toList, it.1]; exact l1
      refine List.ext_getElem? fun j => ?_
      rw [List.map_map, List.getElem?_map]
      cases hj : acc.toList[j]? with
      | none =>
        have := List.getElem?_eq_none_iff.mp hj
        rw [List.getElem?_eq_none (by omega)]
        rfl
      | some v =>
        obtain ⟨en, hen, hv⟩ := it.2 j v (by rw [← Array.getElem?_toList]; exact hj)
        have qe := entry_at he j
        rw [hen] at qe
        cases hb : ks[j]? with
        | none => rw [hb] at qe; cases qe
        | some b =>
          rw [hb] at qe
          have : en = entryOfKey (tupleKind (mixKind X.prog X.w)) b := Option.some.inj qe
          rw [hv, this]
          rfl
    have rv : Vals ((ks.map fun x => x.2.1).map V.ref) acc.toList := by rw [eb]; exact vals_refs _
    have hk : IsKeys H kvs (ks.map fun x => x.2.1) := isKeys_of pr
    generalize (ks.map fun x => x.2.1) = bs at rv hk
    have eFG : Ex F (knowB F H bs) := fun b u q => by
      unfold knowB
      by_cases hb : b ∈ bs
      · rw [if_pos hb]; exact e b u q
      · rw [if_neg hb]; exact q
    have eGH : Ex (knowB F H bs) H := fun b u q => by
      unfold knowB at q
      by_cases hb : b ∈ bs
      · rwa [if_pos hb] at q
      · rw [if_neg hb] at q; exact e b u q
    have tup : ∀ b ∈ bs, ∃ ys, H b = some (.tup ys) := by
      intro b hb
      unfold IsKeys at hk
      have go : ∀ (kvs : List (List Key × V)) (bs : List Addr), Paired (fun (p : List Key × V) b => H b = some (.tup (p.1.map kV))) kvs bs → ∀ b ∈ bs, ∃ ys, H b = some (.tup ys) := by
        intro kvs bs hk
        induction hk with
        | nil => intro b hb; cases hb
        | cons h1 _ ih =>
          intro b hb
          rcases List.mem_cons.mp hb with q | q
          · rw [q]; exact ⟨_, h1⟩
          · exact ih b q
      exact go kvs bs hk b hb
    refine ⟨knowB F H bs, _, rv, eFG, eGH, fun b hb => ?_, ?_⟩
    · unfold knowB
      by_cases q : b ∈ bs
      · obtain ⟨ys, h1⟩ := tup b q
        rw [if_pos q]
        exact .inr ⟨ys, h1⟩
      · rw [if_neg q]; exact .inl hb
    · rw [rt.keys]
      have key : ∀ (kvs : List (List Key × V)) (cs : List Addr), (∀ c ∈ cs, c ∈ bs) → IsKeys H kvs cs → RpA (knowB F H bs) (cs.map V.ref) (kvs.map fun p => .tuple (p.1.map keyD)) := by
        intro kvs
        induction kvs with
        | nil => intro cs _ h; cases h; exact .nil
        | cons p kvs ih =>
          intro cs hc h
          cases h with
          | cons h1 h2 =>
            refine .cons (.tup (xs := p.1.map kV) ?_ (rpA_kV _)) (ih _ (fun c hq => hc c (by simp [hq])) h2)
            unfold knowB
            rw [if_pos (hc _ (by simp))]
            exact h1
      exact key kvs bs (fun c h => h) hk
mutual
/-- what a datum is read off stands on the heap -/
theorem reads_old {h : Heap} : ∀ (d : PyData) (v : Value) (as : List Addr), flatD d = true → Reads h v d as → ∀ a ∈ as, ∃ o, h.get? a = some o
  | .none, _, _, _, r => by cases r; intro a ha; cases ha
  | .bool _, _, _, _, r => by cases r; intro a ha; cases ha
  | .int _, _, _, _, r => by cases r; intro a ha; cases ha
  | .str _, _, _, _, r => by cases r; intro a ha; cases ha
  | .list ds, _, _, hf, r => by
    cases r with
    | list h1 h2 h3 h4 =>
      intro a ha
      rcases List.mem_cons.mp ha with q | q
      · rw [q]; exact ⟨_, h1⟩
      · exact readsAll_old ds _ _ (by simpa [flatD] using hf) h4 a q
  | .tuple ds, _, _, hf, r => by
    cases r with
    | tuple h1 h2 h3 h4 => exact readsAll_old ds _ _ (by simpa [flatD] using hf) h4
  | .dict _, _, _, hf, _ => by simp [flatD] at hf
theorem readsAll_old {h : Heap} : ∀ (ds : List PyData) (vs : List Value) (as : List Addr), flatDs ds = true → ReadsAll h vs ds as → ∀ a ∈ as, ∃ o, h.get? a = some o
  | [], _, _, _, r => by cases r; intro a ha; cases ha
  | d :: ds, _, _, hf, r => by
    rw [flatDs, Bool.and_eq_true] at hf
    cases r with
    | cons h1 h2 =>
      intro a ha
      rcases List.mem_append.mp ha with q | q
      · exact reads_old d _ _ hf.1 h1 a q
      · exact readsAll_old ds _ _ hf.2 h2 a q
end
theorem cr_srtK {X : Cx} {k : Nat} (hc : X.calm = true) (hr : Room k X.A) : CallR X (.builtin "sorted") (rSrtK X.K) := by
  intro pins s σ H vs us Q I r h
  obtain ⟨F, a, es, rfl, e, rp, hfl, hal, hso, hdep, q⟩ := h
  rw [Vals.ref1 r]
  obtain ⟨n, P, OK, src, ok, hn, _, conv⟩ := keys_src hc I e rp
  refine Calls.call_function_entry PyProof.Rows.kind_sorted PyProof.Rows.plain_sorted PyProof.Rows.entry_sorted (PyProof.Rows.args_sorted1 _) ?_
  unfold Builtin.«sorted»
  refine wpAny_bind (m := checkCount "sorted" 1 1 _) (wpAny_pure ?_)
  refine wpAny_bind (PySem.W.kdu_collect (A := X.A.in1) src (I.ok.hd hc) ok hn fun h' tk acc hk hacc => ?_)
  obtain ⟨G, xs, rv, e1, e2, e3, ra⟩ := conv acc hacc
  have I1 : Inv X pins σ H { s with heap := h', toks := tk } := I.kept hk
  have hlen : acc.toList.length = (es.map (·.1)).length := by rw [← rv.length, ra.length]
  have hz : acc.toList.length ≤ sizeLine := by rw [Array.length_toList, hacc.1]; exact hn
  refine wpAny_bind (wpAny_newList ?_ hz)
  have hoL : (h'.push (seqObj "list" acc.toList.toArray 0)).get? h'.objs.size = some (seqObj "list" acc.toList.toArray 0) := Heap.get?_push_size _ rfl
  show wpAny _ _ _ _ _ { s with heap := h'.push (seqObj "list" acc.toList.toArray 0), toks := tk }
  have each : EachIs (fun u d => ∃ x, RelV x u ∧ Rp G x d) acc.toList (es.map (·.1)) := by
    have key : ∀ (xs : List V) (us : List Value) (ds : List PyData), Vals xs us → RpA G xs ds → EachIs (fun u d => ∃ x, RelV x u ∧ Rp G x d) us ds := by
      intro xs
      induction xs with
      | nil => intro us ds a1 a2; cases a1; cases a2; exact .nil
      | cons x xs ih =>
        intro us ds a1 a2
        cases a1 with
        | cons b1 b2 => cases a2 with
          | cons c1 c2 => exact .cons ⟨x, b1, c1⟩ (ih _ _ b2 c2)
    exact key xs _ _ rv ra
  have reads : ∀ (us : List Value) (ds : List PyData), flatDs ds = true → EachIs (fun u d => ∃ x, RelV x u ∧ Rp G x d) us ds → EachIs (fun u d => ∃ as, Reads (h'.push (seqObj "list" acc.toList.toArray 0)) u d as ∧ ¬ h'.objs.size ∈ as) us ds := by
    intro us ds hf h
    induction h with
    | nil => exact .nil
    | cons b1 b2 ih =>
      rw [flatDs, Bool.and_eq_true] at hf
      obtain ⟨x, rx, rpx⟩ := b1
      obtain ⟨as, rr⟩ := Dp.reads I1 _ x _ (rpx.dp (K := X.K) e2 hf.1) rx
      refine .cons ⟨as, PyProof.Rows.Reads.keeps (fun _ _ q => Heap.get?_push_of_some _ q) rr, fun hm => ?_⟩ (ih hf.2)
      obtain ⟨o, ho⟩ := reads_old _ _ _ hf.1 rr _ hm
      exact absurd (Heap.lt_size ho) (Nat.lt_irrefl _)
  have hmap : (es.map (·.1)).map (id : PyData → PyData) = es.map (·.1) := by simp
  refine wpAny_bind (wpAny_holding (PySem.W.list_sort_data (enc := id) (R := fun u d => ∃ x, RelV x u ∧ Rp G x d) (vs := acc.toList) hoL each (reads _ _ hfl each) (by rw [hmap]; exact hal) (by rw [hmap]; exact hso) (by rw [← hlen]; exact hz)
    (fun b hb => by have := hdep b hb; have := hr.un; have hu : X.A.in1.units = X.A.units + 1 := rfl; simp only [id]; omega) fun out ho he => ?_))
  have back : ∀ (us : List Value) (ds : List PyData), EachIs (fun u d => ∃ x, RelV x u ∧ Rp G x d) us ds → ∃ ys : List V, Vals ys us ∧ RpA G ys ds := by
    intro us ds h
    induction h with
    | nil => exact ⟨[], .nil, .nil⟩
    | cons b1 b2 ih =>
      obtain ⟨ys, a1, a2⟩ := ih
      obtain ⟨x, c1, c2⟩ := b1
      exact ⟨x :: ys, .cons c1 a1, .cons c2 a2⟩
  obtain ⟨ys, y1, y2⟩ := back _ _ he
  obtain ⟨ep, hep⟩ := PyProof.Rows.sortedHeap_at (vs := acc.toList) (out := out.toArray) hoL
  have hys : ys.length ≤ sizeLine := by rw [y1.length, ho, ← hlen]; exact hz
  refine wpAny_pure ⟨_, rfl, .ref h'.objs.size, L2.upd H h'.objs.size (.lst ys), I1.laid (t' := tk) (fun b u q => ?_) (Nat.le_refl _) (show ObjOk X.prog X.w _ _ _ (.lst ys) from ⟨hys, out, ep, y1, hep⟩), rfl, q G ys _ e1 e2 e3 y2 (I1.hok.fresh (Nat.le_refl _))⟩
  have hb : b < h'.objs.size := Heap.lt_size q
  rw [PyProof.Rows.sortedHeap_old (Nat.ne_of_lt hb) (by rw [size_push']; exact Nat.lt_succ_of_lt hb)]
  exact Heap.get?_push_of_some _ q
section
variable {z : Zn} {X : Cx} {e : Expr} {t : TE} {we : WE} {p pos : Pos} {k : Nat}
@[simp] def wSortK (w : WE) : WA := fun en P => w en fun d n => ∃ es, d = .dict es ∧ OkSort (es.map (·.1)) ∧ P ((es.map (·.1)).mergeSort (dataLe false id)) n
theorem jl_sortK (hr : Room k X.A) (bi : ∀ x ∈ BI, X.mg x = none) (h : JE z X e t we) (hc : X.calm = true := by rfl) (hg : Gl X "sorted" := by rfl) (he : starEach [e] X.env = (false, eval e X.env) :: starEach [] X.env := by rfl) (hpl : (backTo pos (starEach [] X.env)).any (·.1) = false := by rfl) :
    JL z X (.Call (.Name "sorted" p) [e] [] pos) (tCB (kC rSrtK) (tCons t tNil)) (wSortK we) where
  pe := pe_callB (kC_ok (cr_srtK hc hr)) hg (bi _ (by decide)) (by decide +kernel) (pa_cons h.pe pa_nil he) (by decide) (by decide) he hpl
  de := fun B σ H F en s P Q hw kk => by
    refine h.de B σ H F en s _ _ hw fun v H1 F1 d n1 g1 s1 r1 q1 => ?_
    obtain ⟨es, rfl, o, q⟩ := q1
    have hv : ∃ a, v = .ref a := by cases r1 <;> exact ⟨_, rfl⟩
    obtain ⟨a, rfl⟩ := hv
    intro K
    refine ⟨F1, a, es, rfl, g1.sub, r1, o.fl, o.al, o.so, o.dp, fun G ys l e1 e2 e3 ry hl => ?_⟩
    have g2 : Grow z F1 H1 G (L2.upd H1 l (.lst ys)) := {
      keep := fun b o _ h => by rw [upd_ne (ne_of_none h hl)]; exact h
      dom := fun b h => by
        by_cases hb : b = l
        · subst hb; exact hl
        · rwa [upd_ne hb] at h
      ext := e1
      sub := fun b u h => by
        have := e2 b u h
        rw [upd_ne (ne_of_none this hl)]; exact this
      new := fun b _ h => e3 b h }
    exact kk l ys _ G _ n1 (g1.trans g2) (s1.upd (zv_not s1 hl)) (g1.dom l hl) (none_of_sub e2 hl) upd_same ry q
end
section
variable {z : Zn} {X : Cx} {a b : Expr} {ta tb : TE} {pos : Pos}
/-- x, y = a, b where a name is used by a nested block: the tuple is made and taken apart -/
theorem den_unp2 {w v : WO} {i j : Nat} (ha : DenU z ta w) (hb : DenU z tb v) : DenS z (tAsg (tTup (tCons ta (tCons tb tNil))) (gSq 2 (gCons (gName i) (gCons (gName j) gNil)))) (wPar2L i j w v) := fun B F0 σ H F en D P s g0 hw k => by
  obtain ⟨hi, hw⟩ := hw
  refine ha B σ H F en s _ _ hw fun v1 H1 F1 u1 n1 g1 s1 r1 f1 q1 => ?_
  refine hb B σ H1 F1 _ (s.grow g1 s1) _ _ q1 fun v2 H2 F2 u2 n2 g2 s2 r2 f2 q2 => ?_
  refine ⟨Evl.sz_of (by show 2 ≤ 100000; decide), fun p hp => ?_⟩
  refine ⟨p, [v1, v2], rfl, fun K => .inr (SqT.of upd_same), rfl, v1, [v2], rfl, v2, [], rfl, rfl, ?_⟩
  have gp : Grow z F2 H2 F2 (L2.upd H2 p (.tup [v1, v2])) := Grow.fresh g2.sub hp
  have t2 := sit_par2 (j := j) s g0 hi g1 g2 s1 s2 r1 f1 r2 f2
  exact k.nx _ _ F2 _ (t2.grow (n' := n2) gp (s2.upd (zv_not s2 hp))) (((g0.trans g1).trans g2).trans gp) q2
theorem js_unp2 {w v : WO} {x y : Str} {px py pt : Pos} {kt k2 pt2} (ia ja : Nat) (hN : X.N.Nodup) (hi : X.N[ia]? = some x) (hj : X.N[ja]? = some y) (hx : Loc X.env.scope x) (hy : Loc X.env.scope y) (ha : JU z X a ta w) (hb : JU z X b tb v)
    (hc : X.calm = true := by rfl) (hf : X.fn x = true ∨ X.env.scope.names.lookup x = some .local := by first | exact .inl rfl | exact .inr rfl) (hf2 : X.fn y = true ∨ X.env.scope.names.lookup y = some .local := by first | exact .inl rfl | exact .inr rfl)
    (h1 : starEach [b] X.env = (false, eval b X.env) :: starEach [] X.env := by rfl) (h2 : starEach [a, b] X.env = (false, eval a X.env) :: starEach [b] X.env := by rfl)
    (hn : (assignEach [.Name x px, .Name y py] X.env).length = 2 := by rfl) (hst : (assignEach [.Name x px, .Name y py] X.env).findIdx? (·.1) = none := by rfl)
    (a1 : (assignEach [.Name x px, .Name y py] X.env).map (·.2) = assign (.Name x px) X.env :: (assignEach [.Name y py] X.env).map (·.2) := by rfl) (a2 : (assignEach [.Name y py] X.env).map (·.2) = assign (.Name y py) X.env :: (assignEach [] X.env).map (·.2) := by rfl)
    (hs : swapsWithSole [.Tuple [.Name x px, .Name y py] kt pt] (.Tuple [a, b] k2 pt2) pos.line X.env = pure false := by rfl) (hw : swappedStores [.Tuple [.Name x px, .Name y py] kt pt] (.Tuple [a, b] k2 pt2) X.env = pure none := by rfl)
    (h3 : (assignEach [.Tuple [.Name x px, .Name y py] kt pt] X.env).map (·.2) = [assign (.Tuple [.Name x px, .Name y py] kt pt) X.env] := by rfl) :
    JS z X (.Assign [.Tuple [.Name x px, .Name y py] kt pt] (.Tuple [a, b] k2 pt2) pos) (tAsg (tTup (tCons ta (tCons tb tNil))) (gSq 2 (gCons (gName ia) (gCons (gName ja) gNil)))) (wPar2L ia ja w v) where
  ps := ps_asg (pe_tup (pa_cons ha.pe (pa_cons hb.pe pa_nil h1) h2)) (pg_sq hc (pgs_cons (pg_name hN hi hx hf) (pgs_cons (pg_name hN hj hy hf2) pgs_nil a2) a1) hn hst) hs hw h3
  de := den_unp2 ha.de hb.de
end
section
variable {z : Zn} {X : Cx} {st : Stmt} {rest : List Stmt} {t u : TS} {w v : WS}
/-- two parts with a statement between them that is chosen by the proof -/
@[simp] def wCut (w v : WS) : WS := fun P en => ∃ I : En → Prop, w { P with nx := I } en ∧ ∀ en', I en' → v P en'
theorem den_cut (h : DenS z t w) (h' : DenS z u v) : DenS z (tSeq t u) (wCut w v) := fun B F0 σ H F en D P s g hw k => by
  obtain ⟨I, h1, h2⟩ := hw
  exact h B F0 σ H F en { D with nx := u D } { P with nx := I } s g h1 ⟨fun σ' H' F' en' s' g' q => h' B F0 σ' H' F' en' D P s' g' (h2 en' q) k, k.rt, k.bk, k.ct⟩
theorem jss_cut (h : JS z X st t w) (h' : JSs z X rest u v) : JSs z X (st :: rest) (tSeq t u) (wCut w v) := ⟨pss_cons h.ps h'.ps, den_cut h.de h'.de⟩
end
end DD
/-! The Deep layer, 13: calls by names, reading a list of the def's own. -/
namespace DD
open PySem PySem.Spec PyProof.Rows L2
open Evl (Ex)
/-! ### a call by names alone -/
/-- values for names ks bind to the parameters ps in the order that g tells -/
structure KwB (K : PySem.W.Frag) (fd : FuncData) (ps ks : List Str) (g : {α : Type} → List α → List α) : Prop where
  to : ∀ (s : Shared) (ws : List Value), K.In s.heap → (g ws).length = ps.length → ws.length = ks.length → BindsTo s fd ⟨[], ks.zip ws⟩ (ps.zip (g ws))
  len : ∀ {α : Type} (ws : List α), ws.length = ks.length → (g ws).length = ps.length
  rel : ∀ {zs : List V} {ws : List Value}, Vals zs ws → Vals (g zs) (g ws)
  rpa : ∀ {F : Hp} {zs : List V} {ds : List PyData}, RpA F zs ds → RpA F (g zs) (g ds)
def tCallW (sp : Sp) (m : Nat) (g : {α : Type} → List α → List α) (E : XK) (tk : TA) : TE := fun σ H Q => tk σ H fun zs H2 => zs.length = m ∧ sp (g zs) H2 Q E
theorem pe_callW {X : Cx} {CX : CXT} {k : Nat} {f : Addr} {fd : FuncData} {ps ks : List Str} {sp : Sp} {E : XK} {x : Str} {p pos : Pos} {kws : List Keyword} {tk : TA} {g : {α : Type} → List α → List α} (F : FnOk X.prog X.w X.K X.mg X.base CX k f fd ps sp) (hr : Room k X.A) (hg : Gl X x) (hm : X.mg x = some (.ref f)) (hk : PySem.W.keepIn X.K (.ref f) = true) (hb : KwB X.K fd ps ks g) (hx : Passes CX X E)
    (hkw : PK X kws tk) (hall : (backToKw pos (keywordEach kws X.env)).all (·.1.isSome) = true := by rfl) (hks : (backToKw pos (keywordEach kws X.env)).filterMap (·.1) = ks := by rfl)
    (hdb : (x == ("__debug__" : Str)) = false := by decide) (hpl : ((backTo pos (starEach [] X.env)).any (·.1) || (backToKw pos (keywordEach kws X.env)).any (·.1.isNone)) = false := by rfl) :
    PE X (.Call (.Name x p) [] kws pos) (tCallW sp ks.length g E tk) := by
  refine ⟨fun pins s σ H Q I h => ?_⟩
  refine wpAny_Call_Name_kw (ld_glob I hg hm ?_ hdb)
  refine PySem.W.callWith_KW0 (h₀ := X.base) I.ok.mod.kin hk hall (thn (hkw.run pos pins s σ H _ I h) fun ws s2 ⟨zs, H2, I2, rz, hl, q2⟩ => ⟨I2.kIn, ?_⟩) hpl
  rw [hks]
  have r2 := hb.rel rz
  have hlw : ws.length = ks.length := rz.length.symm.trans hl
  refine wpAny_call (codeAny_mono (F.run X.A X.stack s2 H2 ⟨[], ks.zip ws⟩ (g ws) (g zs) Q E hr I2.env0 (hb.to s2 ws I2.kIn (hb.len ws hlw) hlw) r2 q2) fun r s' hq => ?_)
  cases r with
  | error e => exact hx pins σ H2 _ e s' I2 hq
  | ok fl =>
    cases fl with
    | ret u => exact I2.after hq
    | next => exact False.elim hq
    | brk => exact False.elim hq
    | cont => exact False.elim hq
structure JK (z : Zn) (X : Cx) (kws : List Keyword) (t : TA) (w : WA) : Prop where
  pk : PK X kws t
  de : DenA z t w
/-- a def that may be called by names too -/
structure DefPK (P : Program) (w : World) (K : PySem.W.Frag) (mg : Str → Option Value) (base : Heap) (k : Nat) (x : Str) (np : Nat) (sp : PSp) (ks : List Str) (g : {α : Type} → List α → List α) : Prop where
  ex : ∃ f fd ps, FnOk P w K mg base CX0 k f fd ps (spP np sp) ∧ mg x = some (.ref f) ∧ PySem.W.keepIn K (.ref f) = true ∧ Binds K fd ps [] ∧ KwB K fd ps ks g
section
variable {P : Program} {w : World} {K : PySem.W.Frag} {mg : Str → Option Value} {base : Heap} {x : Str} {st : Stmt} {N ps ks : List Str} {k np : Nat} {sp : PSp} {g : {α : Type} → List α → List α}
theorem DefPK.p (D : DefPK P w K mg base k x np sp ks g) : DefP P w K mg base k x np sp := by
  obtain ⟨f, fd, ps, h1, h2, h3, h4, _⟩ := D.ex
  exact ⟨f, fd, ps, h1, h2, h3, h4⟩
theorem DefPK.mono {j : Nat} (D : DefPK P w K mg base j x np sp ks g) (h : j ≤ k) : DefPK P w K mg base k x np sp ks g := by
  obtain ⟨f, fd, ps, h1, r⟩ := D.ex
  exact ⟨f, fd, ps, h1.mono h, r⟩
theorem DefT.pk (D : DefT K mg x st ps) (N : List Str) (S : FnScope N ps (defScope st)) (ks : List Str) (g : {α : Type} → List α → List α)
    (hb : ∀ (kV doc pm : Value) (an : Option Addr) (cdv ct : Value) (ws : List Value), ws.length = ks.length → bindArgs (PySem.W.fnOf x x (defArgs st) (defBody st) (defScope st) .none kV doc pm an cdv ct) ⟨[], ks.zip ws⟩ = pure (ps.zip (g ws)))
    (hl : ∀ {α : Type} (ws : List α), ws.length = ks.length → (g ws).length = ps.length) (hrel : ∀ {zs : List V} {ws : List Value}, Vals zs ws → Vals (g zs) (g ws)) (hra : ∀ {F : Hp} {zs : List V} {ds : List PyData}, RpA F zs ds → RpA F (g zs) (g ds))
    (hbody : ∀ (f : Addr) (cdv : Value) (A : Around) (outer : List Env) (s : Shared) (H : Hp) (E : XK), Room k (A.deeper (envOfC x (defScope st) s.heap.objs.size f cdv)) →
      ∃ t wb, JSs (Option.none) (cxOf CX0 P w K mg base N x (defScope st) f cdv A outer s H E).nox (defBody st) t wb ∧ ∀ ds Q, ds.length = ps.length → sp ds Q → wb { nx := fun _ => Q .none, rt := fun d _ => Q d } (startE N ds)) :
    DefPK P w K mg base (k + 1) x ps.length sp ks g := by
  obtain ⟨f, fd, F, hm, hbn⟩ := D.ex
  refine ⟨f, fd, ps, fn_p F S (hbody f), hm, F.kp, hbn, ?_⟩
  obtain ⟨oc, od, kV, doc, pm, an, cdv, ct, osl, rfl, lk, hcd⟩ := F.ex
  exact ⟨fun s ws _ _ hw => BindsTo.of_eq (hb kV doc pm an cdv ct ws hw), hl, hrel, hra⟩
end
section
variable {z : Zn} {X : Cx} {e : Expr} {t : TE} {we : WE} {p pos kpos : Pos} {k j np : Nat} {nm : Option Str} {kws : List Keyword} {tk : TA} {wk : WA} {ks : List Str} {g : {α : Type} → List α → List α}
theorem jk_nil : JK z X [] tNil wNil := ⟨pk_nil, (ja_nil (X := X)).de⟩
theorem jk_cons (h : JE z X e t we) (hr : JK z X kws tk wk) : JK z X (⟨nm, e, kpos⟩ :: kws) (tCons t tk) (wCons we wk) where
  pk := pk_cons h.pe hr.pk
  de := fun B σ H F en s P Q hw kk => by
    refine h.de B σ H F en s _ _ hw fun v H1 F1 d n1 g1 s1 r1 q1 => ?_
    refine hr.de B σ H1 F1 _ (s.grow g1 s1) _ _ q1 fun vs H2 F2 ds n2 g2 s2 r2 q2 => ?_
    exact kk _ H2 F2 _ n2 (g1.trans g2) s2 (.cons (r1.mono g2.ext) r2) q2
@[simp] def wCallW (m : Nat) (g : {α : Type} → List α → List α) (np : Nat) (sp : PSp) (w : WA) : WE := fun en P => w en fun ds n => ds.length = m ∧ (g ds).length = np ∧ sp (g ds) fun d => P d n
theorem den_callW {sp : PSp} {f : Addr} {fd : FuncData} {ps : List Str} (hb : KwB X.K fd ps ks g) (h : DenA z tk wk) : Den z (tCallW (spP np sp) ks.length g E0 tk) (wCallW ks.length g np sp wk) := fun B σ H F en s P Q hw kk =>
  h B σ H F en s _ _ hw fun vs H1 F1 ds n1 g1 s1 r1 q1 => by
    have r2 := hb.rpa r1
    refine ⟨by rw [r1.length]; exact q1.1, by rw [r2.length]; exact q1.2.1, F1, _, _, g1.sub, r2, q1.2.2, fun v H2 F2 d g2 rv q2 => ?_⟩
    exact kk v H2 F2 d n1 (g1.trans g2.weak) (s1.ex g2.ex) rv q2
theorem je_kw {x : Str} {sp : PSp} (D : DefPK X.prog X.w X.K X.mg X.base j x np sp ks g) (hr : Room k X.A) (ha : JK z X kws tk wk) (hk : j ≤ k := by first | decide | omega) (hg : Gl X x := by rfl)
    (hall : (backToKw pos (keywordEach kws X.env)).all (·.1.isSome) = true := by rfl) (hks : (backToKw pos (keywordEach kws X.env)).filterMap (·.1) = ks := by rfl)
    (hdb : (x == ("__debug__" : Str)) = false := by decide) (hpl : ((backTo pos (starEach [] X.env)).any (·.1) || (backToKw pos (keywordEach kws X.env)).any (·.1.isNone)) = false := by rfl) :
    JE z X (.Call (.Name x p) [] kws pos) (tCallW (spP np sp) ks.length g E0 tk) (wCallW ks.length g np sp wk) := by
  obtain ⟨f, fd, ps, F, hm, hkp, hb, hkw⟩ := D.ex
  exact ⟨pe_callW F (hr.mono hk) hg hm hkp hkw pass0 ha.pk hall hks hdb hpl, den_callW (f := f) hkw ha.de⟩
/-! ### a list of the def's own, read -/
@[simp] def wTupOwn (i : Nat) : WE := fun en P => ∃ ds, en.s[i]? = some (.own ds) ∧ P (.tuple ds) en.n
theorem je_tupOwn {x : Str} {p0 : Pos} (i : Nat) (hg : Gl X "tuple") (hm : X.mg "tuple" = none) (hN : X.N[i]? = some x := by rfl) (hv : Vis X.env.scope x := by first | exact Or.inl rfl | exact Or.inr (Or.inl rfl) | exact Or.inr (Or.inr rfl)) (hd : (x == ("__debug__" : Str)) = false := by decide)
    (hcd : (x == ("__classdict__" : Str)) = false := by decide) (he : starEach [.Name x p0] X.env = (false, eval (.Name x p0) X.env) :: starEach [] X.env := by rfl) (hpl : (backTo pos (starEach [] X.env)).any (·.1) = false := by rfl) :
    JE z X (.Call (.Name "tuple" p) [.Name x p0] [] pos) (tCB (kC rTupOf) (tCons (tVar i) tNil)) (wTupOwn i) where
  pe := pe_callTy (kC_ok (r := rTupOf) call_tuple_of) hg hm (by decide +kernel) (pa_cons (pv i hN hv hd hcd) pa_nil he) (by decide) (by decide) he hpl
  de := fun B σ H F en s P Q hw k => by
    obtain ⟨ds, h1, q⟩ := hw
    obtain ⟨l, xs, e1, e2, e3, e4, e5, e6⟩ := s.own h1
    refine ⟨.ref l, e1, ?_⟩
    intro K
    refine ⟨l, xs, rfl, .inl ⟨SqL.of e4, fun p hp => ?_⟩⟩
    have hf : F p = none := none_of_sub s.sub hp
    exact k _ _ _ _ en.n (Grow.laid s.sub hp) (s.stm.upd (zv_not s.stm hp)) (.tup upd_same (e5.mono (ex_upd hf))) q
/-- own[i] -/
@[simp] def wIxOwn (i : Nat) (wi : WE) : WE := fun en P => ∃ ds, en.s[i]? = some (.own ds) ∧ wi en fun ix n => ∃ j r, ix = .int j ∧ L2.atI ds j = some r ∧ P r n
theorem je_ixOwn {x : Str} {p0 : Pos} {b : Expr} {tb : TE} {wb : WE} (i : Nat) (hb : JE z X b tb wb) (hN : X.N[i]? = some x := by rfl) (hv : Vis X.env.scope x := by first | exact Or.inl rfl | exact Or.inr (Or.inl rfl) | exact Or.inr (Or.inr rfl)) (hd : (x == ("__debug__" : Str)) = false := by decide)
    (hcd : (x == ("__classdict__" : Str)) = false := by decide) (hs : PlainIx b := by exact fun _ _ => rfl) : JE z X (.Subscript (.Name x p0) b pos) (tOp (kR rIx) (tVar i) tb) (wIxOwn i wb) where
  pe := pe_ix (kI_ok ix_seq) (pv i hN hv hd hcd) hb.pe hs
  de := fun B σ H F en s P Q hw k => by
    obtain ⟨ds, h1, hw⟩ := hw
    obtain ⟨l, xs, e1, e2, e3, e4, e5, e6⟩ := s.own h1
    refine ⟨.ref l, e1, ?_⟩
    refine hb.de B σ H F en s _ _ hw fun u H1 F1 ix n1 g1 s1 r1 q1 => ?_
    obtain ⟨j, r, rfl, h2, q⟩ := q1
    cases r1
    obtain ⟨v, h5, h6⟩ := (e5.mono g1.ext).atI h2
    intro K
    exact .inl ⟨l, xs, j, v, rfl, rfl, SqL.of (g1.keep l _ e3 e4), h5, k v H1 F1 r n1 g1 s1 h6 q⟩
end
end DD
namespace MC
open PySem PySem.Spec PyProof.Rows L2 DD
open PySem.W (alike dataLt dataLe AllAlike Sortable EachIs)
def top (i : Nat) : Stmt := PySem.Challenge.pw_wordforword_k02_machines_known.main.body.getD i (.Pass ⟨0, 0, 0, 0⟩)
abbrev s_is_list : Stmt := top 1
abbrev N_is_list : List Str := ["thing"]
abbrev ps_is_list : List Str := ["thing"]
theorem sc_is_list : FnScope N_is_list ps_is_list (defScope s_is_list) := ⟨rfl, rfl, rfl, by decide +kernel, rfl, by decide +kernel, by decide +kernel⟩
abbrev s_is_whole : Stmt := top 2
abbrev N_is_whole : List Str := ["thing"]
abbrev ps_is_whole : List Str := ["thing"]
theorem sc_is_whole : FnScope N_is_whole ps_is_whole (defScope s_is_whole) := ⟨rfl, rfl, rfl, by decide +kernel, rfl, by decide +kernel, by decide +kernel⟩
abbrev s_is_number : Stmt := top 3
abbrev N_is_number : List Str := ["thing"]
abbrev ps_is_number : List Str := ["thing"]
theorem sc_is_number : FnScope N_is_number ps_is_number (defScope s_is_number) := ⟨rfl, rfl, rfl, by decide +kernel, rfl, by decide +kernel, by decide +kernel⟩
abbrev s_is_below : Stmt := top 4
abbrev N_is_below : List Str := ["thing", "most"]
abbrev ps_is_below : List Str := ["thing", "most"]
theorem sc_is_below : FnScope N_is_below ps_is_below (defScope s_is_below) := ⟨rfl, rfl, rfl, by decide +kernel, rfl, by decide +kernel, by decide +kernel⟩
abbrev s_is_row : Stmt := top 5
abbrev N_is_row : List Str := ["thing", "many"]
abbrev ps_is_row : List Str := ["thing", "many"]
theorem sc_is_row : FnScope N_is_row ps_is_row (defScope s_is_row) := ⟨rfl, rfl, rfl, by decide +kernel, rfl, by decide +kernel, by decide +kernel⟩
abbrev s_is_ascending : Stmt := top 6
abbrev N_is_ascending : List Str := ["things", "one", "other"]
abbrev ps_is_ascending : List Str := ["things"]
theorem sc_is_ascending : FnScope N_is_ascending ps_is_ascending (defScope s_is_ascending) := ⟨rfl, rfl, rfl, by decide +kernel, rfl, by decide +kernel, by decide +kernel⟩
abbrev s_kept_word : Stmt := top 8
abbrev N_kept_word : List Str := ["many", "thing", "one"]
abbrev ps_kept_word : List Str := ["many", "thing"]
theorem sc_kept_word : FnScope N_kept_word ps_kept_word (defScope s_kept_word) := ⟨rfl, rfl, rfl, by decide +kernel, rfl, by decide +kernel, by decide +kernel⟩
abbrev s_kept_pair : Stmt := top 10
abbrev N_kept_pair : List Str := ["thing", "stands", "signs", "word"]
abbrev ps_kept_pair : List Str := ["thing", "stands", "signs"]
theorem sc_kept_pair : FnScope N_kept_pair ps_kept_pair (defScope s_kept_pair) := ⟨rfl, rfl, rfl, by decide +kernel, rfl, by decide +kernel, by decide +kernel⟩
abbrev s_kept_move : Stmt := top 11
abbrev N_kept_move : List Str := ["thing", "stands", "letters", "signs", "word"]
abbrev ps_kept_move : List Str := ["thing", "stands", "letters", "signs"]
theorem sc_kept_move : FnScope N_kept_move ps_kept_move (defScope s_kept_move) := ⟨rfl, rfl, rfl, by decide +kernel, rfl, by decide +kernel, by decide +kernel⟩
abbrev s_kept_all : Stmt := top 12
abbrev N_kept_all : List Str := ["things"]
abbrev ps_kept_all : List Str := ["things"]
theorem sc_kept_all : FnScope N_kept_all ps_kept_all (defScope s_kept_all) := ⟨rfl, rfl, rfl, by decide +kernel, rfl, by decide +kernel, by decide +kernel⟩
abbrev s_kept_machine : Stmt := top 13
abbrev N_kept_machine : List Str := ["thing", "stands", "letters", "signs", "starts", "moves", "ends", "part", "one"]
abbrev ps_kept_machine : List Str := ["thing"]
theorem sc_kept_machine : FnScope N_kept_machine ps_kept_machine (defScope s_kept_machine) := ⟨rfl, rfl, rfl, by decide +kernel, rfl, by decide +kernel, by decide +kernel⟩
abbrev s_is_machine : Stmt := top 14
abbrev N_is_machine : List Str := ["thing"]
abbrev ps_is_machine : List Str := ["thing"]
theorem sc_is_machine : FnScope N_is_machine ps_is_machine (defScope s_is_machine) := ⟨rfl, rfl, rfl, by decide +kernel, rfl, by decide +kernel, by decide +kernel⟩
/-! ### what they tell -/
def whole : PyData → Bool
  | .int _ => true
  | _ => false
def number : PyData → Bool
  | .int i => decide (0 ≤ i)
  | _ => false
def below (m : Int) : PyData → Bool
  | .int i => decide (0 ≤ i) && decide (i < m)
  | _ => false
@[simp] theorem whole_0  : whole PyData.none = false := rfl
@[simp] theorem whole_1 (b : Bool) : whole (.bool b) = false := rfl
@[simp] theorem whole_2 (i : Int) : whole (.int i) = true := rfl
@[simp] theorem whole_3 (s : Str) : whole (.str s) = false := rfl
@[simp] theorem whole_4 (xs : List PyData) : whole (.list xs) = false := rfl
@[simp] theorem whole_5 (xs : List PyData) : whole (.tuple xs) = false := rfl
@[simp] theorem whole_6 (es : List (PyData × PyData)) : whole (.dict es) = false := rfl
@[simp] theorem number_0  : number PyData.none = false := rfl
@[simp] theorem number_1 (b : Bool) : number (.bool b) = false := rfl
@[simp] theorem number_2 (i : Int) : number (.int i) = decide (0 ≤ i) := rfl
@[simp] theorem number_3 (s : Str) : number (.str s) = false := rfl
@[simp] theorem number_4 (xs : List PyData) : number (.list xs) = false := rfl
@[simp] theorem number_5 (xs : List PyData) : number (.tuple xs) = false := rfl
@[simp] theorem number_6 (es : List (PyData × PyData)) : number (.dict es) = false := rfl
@[simp] theorem below_0 (m : Int)  : below m PyData.none = false := rfl
@[simp] theorem below_1 (m : Int) (b : Bool) : below m (.bool b) = false := rfl
@[simp] theorem below_2 (m : Int) (i : Int) : below m (.int i) = (decide (0 ≤ i) && decide (i < m)) := rfl
@[simp] theorem below_3 (m : Int) (s : Str) : below m (.str s) = false := rfl
@[simp] theorem below_4 (m : Int) (xs : List PyData) : below m (.list xs) = false := rfl
@[simp] theorem below_5 (m : Int) (xs : List PyData) : below m (.tuple xs) = false := rfl
@[simp] theorem below_6 (m : Int) (es : List (PyData × PyData)) : below m (.dict es) = false := rfl
def row (d : PyData) (m : Int) : Bool := match seqD d with
  | some xs => decide ((xs.length : Int) = m)
  | none => false
mutual
def lenOk : PyData → Bool
  | .list xs => decide (xs.length ≤ 100000) && lenOks xs
  | .tuple xs => decide (xs.length ≤ 100000) && lenOks xs
  | _ => true
def lenOks : List PyData → Bool
  | [] => true
  | x :: xs => lenOk x && lenOks xs
end
theorem lenOk_seq {d : PyData} {xs : List PyData} (h : lenOk d = true) (e : seqD d = some xs) : xs.length ≤ 100000 ∧ lenOks xs = true := by
  cases d <;> simp [lenOk] at h e <;> subst e <;> exact h
theorem lenOks_mem {xs : List PyData} (h : lenOks xs = true) : ∀ d ∈ xs, lenOk d = true := by
  induction xs with
  | nil => intro d hd; cases hd
  | cons x xs ih =>
    rw [lenOks, Bool.and_eq_true] at h
    intro d hd
    rcases List.mem_cons.mp hd with e | hd
    · rw [e]; exact h.1
    · exact ih h.2 d hd
/-- a number of a word -/
def numOk (m : PyData) (d : PyData) : Bool := match m with
  | .int k => below k d
  | _ => number d
def keptW (m d : PyData) : PyData := match seqD d with
  | some xs => if xs.all (numOk m) then .tuple xs else .none
  | none => .none
theorem row_len {d : PyData} {m : Int} {n : Nat} (h : row d m = true) (hm : m = n) : ∃ xs, seqD d = some xs ∧ xs.length = n := by
  unfold row at h
  cases e : seqD d with
  | none => rw [e] at h; cases h
  | some xs =>
    rw [e] at h
    exact ⟨xs, rfl, by have := of_decide_eq_true h; omega⟩
theorem len2 {α : Type} {xs : List α} (h : xs.length = 2) : ∃ a b, xs = [a, b] := by
  match xs, h with
  | [a, b], _ => exact ⟨a, b, rfl⟩
theorem len4 {α : Type} {xs : List α} (h : xs.length = 4) : ∃ a b c d, xs = [a, b, c, d] := by
  match xs, h with
  | [a, b, c, d], _ => exact ⟨a, b, c, d, rfl⟩
theorem len6 {α : Type} {xs : List α} (h : xs.length = 6) : ∃ a b c d e f, xs = [a, b, c, d, e, f] := by
  match xs, h with
  | [a, b, c, d, e, f], _ => exact ⟨a, b, c, d, e, f, rfl⟩
def keptP (st sg : Int) (d : PyData) : PyData := match seqD d with
  | some [a, b] => if below st a && !noneD (keptW (.int sg) b) then .tuple [a, keptW (.int sg) b] else .none
  | _ => .none
def keptV (st le sg : Int) (d : PyData) : PyData := match seqD d with
  | some [a, b, c, e] => if below st a && below le b && !noneD (keptW (.int sg) c) && below st e then .tuple [a, b, keptW (.int sg) c, e] else .none
  | _ => .none
def ascD (ds : List PyData) : Bool := (List.zipWith dataLt ds (ds.drop 1)).all id
def keptA (ds : List PyData) : PyData := if ds.any noneD || !ascD ds then .none else .tuple ds
theorem asc_eq (xs ys : List PyData) : (zipD xs ys).all (fun d => match d with | PyData.tuple [x, y] => dataLt x y | _ => false) = (List.zipWith dataLt xs ys).all id := by
  unfold zipD
  induction xs generalizing ys with
  | nil => rfl
  | cons x xs ih => cases ys with
    | nil => rfl
    | cons y ys => simp only [List.zipWith_cons_cons, List.all_cons, ih]; rfl
/-- items that can be compared, each with the next -/
def AscOk (ds : List PyData) : Prop := ∀ x y, (x, y) ∈ ds.zip (ds.drop 1) → okLt x y = true
/-! ### the promises -/
def S_is_below : PSp := fun ds Q => ∃ d m, ds = [d, .int m] ∧ Q (.bool (below m d))
@[simp] theorem S_is_below_at (d : PyData) (m : Int) (Q : PyData → Prop) : S_is_below [d, .int m] Q ↔ Q (.bool (below m d)) := ⟨fun ⟨_, _, h, q⟩ => by cases h; exact q, fun q => ⟨_, _, rfl, q⟩⟩
def S_is_row : PSp := fun ds Q => ∃ d m, ds = [d, .int m] ∧ Q (.bool (row d m))
@[simp] theorem S_is_row_at (d : PyData) (m : Int) (Q : PyData → Prop) : S_is_row [d, .int m] Q ↔ Q (.bool (row d m)) := ⟨fun ⟨_, _, h, q⟩ => by cases h; exact q, fun q => ⟨_, _, rfl, q⟩⟩
def S_kept_word : PSp := fun ds Q => ∃ m d, ds = [m, d] ∧ (m = .none ∨ ∃ k, m = .int k) ∧ lenOk d = true ∧ Q (keptW m d)
@[simp] theorem S_kept_word_int (d : PyData) (k : Int) (Q : PyData → Prop) : S_kept_word [.int k, d] Q ↔ (lenOk d = true ∧ Q (keptW (.int k) d)) := ⟨fun ⟨_, _, h, _, l, q⟩ => by cases h; exact ⟨l, q⟩, fun ⟨l, q⟩ => ⟨_, _, rfl, .inr ⟨k, rfl⟩, l, q⟩⟩
@[simp] theorem S_kept_word_none (d : PyData) (Q : PyData → Prop) : S_kept_word [.none, d] Q ↔ (lenOk d = true ∧ Q (keptW .none d)) := ⟨fun ⟨_, _, h, _, l, q⟩ => by cases h; exact ⟨l, q⟩, fun ⟨l, q⟩ => ⟨_, _, rfl, .inl rfl, l, q⟩⟩
def S_is_asc : PSp := fun ds Q => ∃ xs, ds = [.list xs] ∧ xs.length ≤ 100000 ∧ AscOk xs ∧ Q (.bool (ascD xs))
@[simp] theorem S_is_asc_at (xs : List PyData) (Q : PyData → Prop) : S_is_asc [.list xs] Q ↔ (xs.length ≤ 100000 ∧ AscOk xs ∧ Q (.bool (ascD xs))) := ⟨fun ⟨_, h, l, o, q⟩ => by cases h; exact ⟨l, o, q⟩, fun ⟨l, o, q⟩ => ⟨_, rfl, l, o, q⟩⟩
def S_kept_pair : PSp := fun ds Q => ∃ d st sg, ds = [d, .int st, .int sg] ∧ lenOk d = true ∧ Q (keptP st sg d)
@[simp] theorem S_kept_pair_at (d : PyData) (st sg : Int) (Q : PyData → Prop) : S_kept_pair [d, .int st, .int sg] Q ↔ (lenOk d = true ∧ Q (keptP st sg d)) := ⟨fun ⟨_, _, _, h, l, q⟩ => by cases h; exact ⟨l, q⟩, fun ⟨l, q⟩ => ⟨_, _, _, rfl, l, q⟩⟩
def S_kept_move : PSp := fun ds Q => ∃ d st le sg, ds = [d, .int st, .int le, .int sg] ∧ lenOk d = true ∧ Q (keptV st le sg d)
@[simp] theorem S_kept_move_at (d : PyData) (st le sg : Int) (Q : PyData → Prop) : S_kept_move [d, .int st, .int le, .int sg] Q ↔ (lenOk d = true ∧ Q (keptV st le sg d)) := ⟨fun ⟨_, _, _, _, h, l, q⟩ => by cases h; exact ⟨l, q⟩, fun ⟨l, q⟩ => ⟨_, _, _, _, rfl, l, q⟩⟩
def S_kept_all : PSp := fun ds Q => ∃ xs, ds = [.list xs] ∧ xs.length ≤ 100000 ∧ okD (.list xs) = true ∧ ((∀ x ∈ xs, noneD x = false) → AscOk xs) ∧ Q (keptA xs)
@[simp] theorem S_kept_all_at (xs : List PyData) (Q : PyData → Prop) : S_kept_all [.list xs] Q ↔ (xs.length ≤ 100000 ∧ okD (.list xs) = true ∧ ((∀ x ∈ xs, noneD x = false) → AscOk xs) ∧ Q (keptA xs)) := ⟨fun ⟨_, h, q⟩ => by cases h; exact q, fun q => ⟨_, rfl, q⟩⟩
def posI : PyData → Bool
  | .int i => decide (0 < i)
  | _ => false
def itemsOf (d : PyData) : List PyData := (seqD d).getD []
def mkM (a b c : Int) (ss ms es : List PyData) : PyData :=
  if noneD (keptA (ss.map (keptP a c))) || noneD (keptA (ms.map (keptV a b c))) || noneD (keptA (es.map (keptP a c))) then .none
  else .tuple [.int a, .int b, .int c, keptA (ss.map (keptP a c)), keptA (ms.map (keptV a b c)), keptA (es.map (keptP a c))]
def intOf : PyData → Int
  | .int i => i
  | _ => 0
def keptM6 (a b c s m e : PyData) : PyData := if (posI a && posI b && posI c) && (isSeq s && isSeq m && isSeq e) then mkM (intOf a) (intOf b) (intOf c) (itemsOf s) (itemsOf m) (itemsOf e) else .none
/-- a machine as it is kept -/
def keptM (d : PyData) : PyData := match seqD d with
  | some [a, b, c, s, m, e] => keptM6 a b c s m e
  | _ => .none
theorem posI_int {d : PyData} (h : posI d = true) : d = .int (intOf d) := by cases d <;> first | rfl | cases h
theorem items_of {d : PyData} (h : isSeq d = true) : seqD d = some (itemsOf d) := by cases d <;> first | rfl | cases h
theorem keptM_no {d : PyData} (h : ¬ row d 6 = true) : keptM d = .none := by
  unfold keptM
  cases e : seqD d with
  | none => rfl
  | some xs =>
    match xs, e with
    | [a, b, c, s, m, q], e => exact absurd (by unfold row; rw [e]; rfl) h
    | [], _ => rfl
    | [_], _ => rfl
    | [_, _], _ => rfl
    | [_, _, _], _ => rfl
    | [_, _, _, _], _ => rfl
    | [_, _, _, _, _], _ => rfl
    | _ :: _ :: _ :: _ :: _ :: _ :: _ :: _, _ => rfl
/-- a word of numbers, kept -/
theorem keptW_or (m d : PyData) : keptW m d = .none ∨ ∃ ns : List Int, keptW m d = .tuple (ns.map PyData.int) := by
  unfold keptW
  cases e : seqD d with
  | none => exact .inl rfl
  | some xs =>
    by_cases h : xs.all (numOk m) = true
    · refine .inr ?_
      have key : ∀ xs : List PyData, xs.all (numOk m) = true → ∃ ns : List Int, xs = ns.map PyData.int := by
        intro xs
        induction xs with
        | nil => exact fun _ => ⟨[], rfl⟩
        | cons x xs ih =>
          intro h
          rw [List.all_cons, Bool.and_eq_true] at h
          obtain ⟨ns, hn⟩ := ih h.2
          have : ∃ i, x = .int i := by
            have h1 := h.1
            unfold numOk at h1
            cases x with
            | int i => exact ⟨i, rfl⟩
            | _ => cases m <;> simp at h1
          obtain ⟨i, rfl⟩ := this
          exact ⟨i :: ns, by rw [hn]; rfl⟩
      obtain ⟨ns, hn⟩ := key xs h
      exact ⟨ns, by show (if xs.all (numOk m) = true then PyData.tuple xs else PyData.none) = _; rw [if_pos h, hn]⟩
    · exact .inl (by show (if xs.all (numOk m) = true then PyData.tuple xs else PyData.none) = _; rw [if_neg h])
theorem below_int {m : Int} {d : PyData} (h : below m d = true) : ∃ i, d = .int i := by cases d <;> first | exact ⟨_, rfl⟩ | cases h
theorem plains_ints (ns : List Int) : plains (ns.map PyData.int) = true := plains_all fun d hd => by
  obtain ⟨n, _, rfl⟩ := List.mem_map.mp hd
  rfl
theorem depth_ints (ns : List Int) : PyData.depthAll (ns.map PyData.int) = 0 := by
  have := depthAll_le (xs := ns.map PyData.int) (n := 0) fun d hd => by
    obtain ⟨n, _, rfl⟩ := List.mem_map.mp hd
    simp [PyData.depth]
  omega
theorem alike_ints (ns ms : List Int) : PySem.W.alikeAll (ns.map PyData.int) (ms.map PyData.int) = true := by
  induction ns generalizing ms with
  | nil => cases ms <;> rfl
  | cons n ns ih => cases ms with
    | nil => rfl
    | cons m ms => simp [PySem.W.alikeAll, alike, ih]
theorem keptP_or (st sg : Int) (d : PyData) : keptP st sg d = .none ∨ ∃ (i : Int) (ns : List Int), keptP st sg d = .tuple [.int i, .tuple (ns.map PyData.int)] := by
  unfold keptP
  split
  · rename_i a b e
    by_cases h : (below st a && !noneD (keptW (.int sg) b)) = true
    · rw [if_pos h]
      rw [Bool.and_eq_true] at h
      obtain ⟨i, rfl⟩ := below_int h.1
      rcases keptW_or (.int sg) b with q | ⟨ns, q⟩
      · rw [q] at h; exact absurd h.2 (by simp)
      · exact .inr ⟨i, ns, by rw [q]⟩
    · rw [if_neg h]; exact .inl rfl
  · exact .inl rfl
theorem keptV_or (st le sg : Int) (d : PyData) : keptV st le sg d = .none ∨ ∃ (i j k : Int) (ns : List Int), keptV st le sg d = .tuple [.int i, .int j, .tuple (ns.map PyData.int), .int k] := by
  unfold keptV
  split
  · rename_i a b c e q
    by_cases h : (below st a && below le b && !noneD (keptW (.int sg) c) && below st e) = true
    · rw [if_pos h]
      simp only [Bool.and_eq_true] at h
      obtain ⟨i, rfl⟩ := below_int h.1.1.1
      obtain ⟨j, rfl⟩ := below_int h.1.1.2
      obtain ⟨k, rfl⟩ := below_int h.2
      rcases keptW_or (.int sg) c with q | ⟨ns, q⟩
      · rw [q] at h; exact absurd h.1.2 (by simp)
      · exact .inr ⟨i, j, k, ns, by rw [q]⟩
    · rw [if_neg h]; exact .inl rfl
  · exact .inl rfl
/-- lists of kept rows can be looked through and compared -/
structure Rows (ds : List PyData) : Prop where
  pl : ∀ d ∈ ds, DD.plain d = true ∧ d.depth ≤ 2
  al : ∀ d ∈ ds, ∀ e ∈ ds, d ≠ .none → e ≠ .none → alike d e = true
theorem Rows.ok {ds : List PyData} (h : Rows ds) : okD (.list ds) = true := okD_list h.pl (by decide)
theorem Rows.asc {ds : List PyData} (h : Rows ds) (hn : ∀ x ∈ ds, noneD x = false) : AscOk ds := by
  intro x y hm
  have hx : x ∈ ds := (List.of_mem_zip hm).1
  have hy : y ∈ ds := List.mem_of_mem_drop (List.of_mem_zip hm).2
  have nn : ∀ z ∈ ds, z ≠ .none := fun z hz q => by
    have := hn z hz
    rw [q] at this
    cases this
  exact okLt_of (h.pl x hx).1 (h.pl y hy).1 (h.al x hx y hy (nn x hx) (nn y hy)) (nn x hx) (by have := (h.pl x hx).2; omega)
theorem rows_P (st sg : Int) (xs : List PyData) : Rows (xs.map (keptP st sg)) where
  pl := fun d hd => by
    obtain ⟨x, _, rfl⟩ := List.mem_map.mp hd
    rcases keptP_or st sg x with q | ⟨i, ns, q⟩
    · rw [q]; exact ⟨rfl, by simp [PyData.depth]⟩
    · rw [q]; exact ⟨by simp [DD.plain, plains, plains_ints], by simp [PyData.depth, PyData.depthAll, depth_ints]⟩
  al := fun d hd e he h1 h2 => by
    obtain ⟨x, _, rfl⟩ := List.mem_map.mp hd
    obtain ⟨y, _, rfl⟩ := List.mem_map.mp he
    rcases keptP_or st sg x with q | ⟨i, ns, q⟩
    · exact absurd q h1
    · rcases keptP_or st sg y with q' | ⟨i', ns', q'⟩
      · exact absurd q' h2
      · rw [q, q']; simp [alike, PySem.W.alikeAll, alike_ints]
theorem rows_V (st le sg : Int) (xs : List PyData) : Rows (xs.map (keptV st le sg)) where
  pl := fun d hd => by
    obtain ⟨x, _, rfl⟩ := List.mem_map.mp hd
    rcases keptV_or st le sg x with q | ⟨i, j, k, ns, q⟩
    · rw [q]; exact ⟨rfl, by simp [PyData.depth]⟩
    · rw [q]; exact ⟨by simp [DD.plain, plains, plains_ints], by simp [PyData.depth, PyData.depthAll, depth_ints]⟩
  al := fun d hd e he h1 h2 => by
    obtain ⟨x, _, rfl⟩ := List.mem_map.mp hd
    obtain ⟨y, _, rfl⟩ := List.mem_map.mp he
    rcases keptV_or st le sg x with q | ⟨i, j, k, ns, q⟩
    · exact absurd q h1
    · rcases keptV_or st le sg y with q' | ⟨i', j', k', ns', q'⟩
      · exact absurd q' h2
      · rw [q, q']; simp [alike, PySem.W.alikeAll, alike_ints]
def S_kept_machine : PSp := fun ds Q => ∃ d, ds = [d] ∧ lenOk d = true ∧ Q (keptM d)
@[simp] theorem S_kept_machine_at (d : PyData) (Q : PyData → Prop) : S_kept_machine [d] Q ↔ (lenOk d = true ∧ Q (keptM d)) := ⟨fun ⟨_, h, q⟩ => by cases h; exact q, fun q => ⟨_, rfl, q⟩⟩
def S_is_machine : PSp := fun ds Q => ∃ d, ds = [d] ∧ lenOk d = true ∧ Q (.bool (!noneD (keptM d)))
@[simp] theorem S_is_machine_at (d : PyData) (Q : PyData → Prop) : S_is_machine [d] Q ↔ (lenOk d = true ∧ Q (.bool (!noneD (keptM d)))) := ⟨fun ⟨_, h, q⟩ => by cases h; exact q, fun q => ⟨_, rfl, q⟩⟩
section
variable {P : Program} {w : World} {K : PySem.W.Frag} {mg : Str → Option Value} {base : Heap}
theorem d_is_list (bi : ∀ x ∈ BI, mg x = none) (D : DefT K mg "is_list" s_is_list ps_is_list) : DefP P w K mg base 1 "is_list" 1 (sF1 fun d => .bool (isSeq d)) := by
  refine D.p N_is_list sc_is_list fun f cdv A outer s H E hr => ⟨_, _, jss_one (js_ret (je_isi_LT bi (je_var 0))), fun ds Q hl h => ?_⟩
  obtain ⟨d, rfl, q⟩ := h
  simpa [startE] using q
theorem d_is_whole (bi : ∀ x ∈ BI, mg x = none) (D : DefT K mg "is_whole" s_is_whole ps_is_whole) : DefP P w K mg base 1 "is_whole" 1 (sF1 fun d => .bool (whole d)) := by
  refine D.p N_is_whole sc_is_whole fun f cdv A outer s H E hr => ⟨_, _, jss_one (js_ret (je_and (je_isi_int bi (je_var 0)) (je_one (je_not (je_isi_bool bi (je_var 0)))))), fun ds Q hl h => ?_⟩
  obtain ⟨d, rfl, q⟩ := h
  cases d <;> simpa [startE] using q
theorem d_is_number (bi : ∀ x ∈ BI, mg x = none) (D : DefT K mg "is_number" s_is_number ps_is_number) (D_is_whole : DefP P w K mg base 1 "is_whole" 1 (sF1 fun d => .bool (whole d))) : DefP P w K mg base 2 "is_number" 1 (sF1 fun d => .bool (number d)) := by
  refine D.p N_is_number sc_is_number fun f cdv A outer s H E hr => ⟨_, _, jss_one (js_ret (je_and (je_f D_is_whole hr (ja_cons (je_var 0) ja_nil)) (je_one (jc_v c_ge (je_var 0) je_int)))), fun ds Q hl h => ?_⟩
  obtain ⟨d, rfl, q⟩ := h
  cases d <;> simpa [startE] using q
theorem d_is_below (bi : ∀ x ∈ BI, mg x = none) (D : DefT K mg "is_below" s_is_below ps_is_below) (D_is_number : DefP P w K mg base 2 "is_number" 1 (sF1 fun d => .bool (number d))) : DefP P w K mg base 3 "is_below" 2 S_is_below := by
  refine D.p N_is_below sc_is_below fun f cdv A outer s H E hr => ⟨_, _, jss_one (js_ret (je_and (je_f D_is_number hr (ja_cons (je_var 0) ja_nil)) (je_one (jc_v c_lt (je_var 0) (je_var 1))))), fun ds Q hl h => ?_⟩
  obtain ⟨d, m, rfl, q⟩ := h
  cases d with
  | int i =>
    by_cases h : 0 ≤ i
    · simpa [startE, h] using q
    · simpa [startE, h] using q
  | _ => simpa [startE] using q
theorem d_is_row (bi : ∀ x ∈ BI, mg x = none) (D : DefT K mg "is_row" s_is_row ps_is_row) (D_is_list : DefP P w K mg base 1 "is_list" 1 (sF1 fun d => .bool (isSeq d))) : DefP P w K mg base 2 "is_row" 2 S_is_row := by
  refine D.p N_is_row sc_is_row fun f cdv A outer s H E hr => ⟨_, _, jss_one (js_ret (je_and (je_f D_is_list hr (ja_cons (je_var 0) ja_nil)) (je_one (jc_v (c_eq hr) (je_len (by rfl) (bi _ (by decide)) (je_var 0)) (je_var 1))))), fun ds Q hl h => ?_⟩
  obtain ⟨d, m, rfl, q⟩ := h
  cases d <;> simpa [startE, row] using q
theorem d_kept_word (bi : ∀ x ∈ BI, mg x = none) (D : DefT K mg "kept_word" s_kept_word ps_kept_word) (D_is_list : DefP P w K mg base 1 "is_list" 1 (sF1 fun d => .bool (isSeq d)))
    (D_is_number : DefP P w K mg base 2 "is_number" 1 (sF1 fun d => .bool (number d))) (D_is_below : DefP P w K mg base 3 "is_below" 2 S_is_below) :
    DefP P w K mg base 4 "kept_word" 2 S_kept_word := by
  refine D.p N_kept_word sc_kept_word fun f cdv A outer s H E hr => ⟨_, _, jss_cons (js_if ((jw_or (jt_not (jt_b (je_f D_is_list hr (ja_cons (je_var 1) ja_nil)))) (jw_or1 (jt_not (jt_b (je_all (by rfl) (bi _ (by decide)) ((jl_lc [("one", 2)] sc_kept_word.nd (ji_seq (je_var 1)) (show blkC N_kept_word (defScope s_kept_word) _ _ = true by decide +kernel) (fun _ _ _ _ _ => jg_name 2 sc_kept_word.nd rfl (by first | exact Or.inl rfl | exact Or.inr rfl)) (fun _ _ _ _ _ => jts_nil) (fun _ _ _ _ _ => je_if (jt_isN (je_var 0)) (je_f D_is_number hr (ja_cons (je_var 2) ja_nil)) (je_f D_is_below hr (ja_cons (je_var 2) (ja_cons (je_var 0) ja_nil))))).je')))))).jt) (jss_one (js_ret je_non)) (jss_nil))
      (jss_one (js_ret (je_tupOf (by rfl) (bi _ (by decide)) (je_var 1)))), fun ds Q hl h => ?_⟩
  obtain ⟨m, d, rfl, hm, hd, q⟩ := h
  simp [startE, -List.all_eq_true, -List.all_eq_false]
  cases e : seqD d with
  | none =>
    rw [isSeq_no e, if_neg Bool.false_ne_true]
    simpa [keptW, e] using q
  | some xs =>
    rw [isSeq_of e, if_pos rfl]
    refine lc_map xs 0 (fun R h => by simpa [e] using h) (fun x => .bool (numOk m x)) (lenOk_seq hd e).1 (fun x hx n1 Q' h => ?_) (bools_of ?_)
    · rcases hm with rfl | ⟨k, rfl⟩ <;> simpa [numOk] using h
    · rw [all_map_id]
      simp only [keptW, e] at q
      by_cases h : xs.all (numOk m) = true
      · rw [if_pos h] at q ⊢
        exact ⟨xs, rfl, q⟩
      · rw [if_neg h] at q ⊢
        exact q
theorem d_is_ascending (bi : ∀ x ∈ BI, mg x = none) (D : DefT K mg "is_ascending" s_is_ascending ps_is_ascending) : DefP P w K mg base 1 "is_ascending" 1 S_is_asc := by
  refine D.p N_is_ascending sc_is_ascending fun f cdv A outer s H E hr => ⟨_, _, jss_one (js_ret (je_all (by rfl) (bi _ (by decide)) ((jl_lc [("one", 1), ("other", 2)] sc_is_ascending.nd (ji_zip (by rfl) (bi _ (by decide)) (je_var 0) ((jl_sl (je_var 0) (jo_some je_int) jo_none).je')) (show blkC N_is_ascending (defScope s_is_ascending) _ _ = true by decide +kernel) (fun _ _ _ _ _ => jg_tup 2 (jgs_cons (jg_name 1 sc_is_ascending.nd rfl (by first | exact Or.inl rfl | exact Or.inr rfl)) (jgs_cons (jg_name 2 sc_is_ascending.nd rfl (by first | exact Or.inl rfl | exact Or.inr rfl)) jgs_nil))) (fun _ _ _ _ _ => jts_nil) (fun _ _ _ _ _ => jc_v (c_ltD hr) (je_var 1) (je_var 2))).je'))), fun ds Q hl h => ?_⟩
  obtain ⟨xs, rfl, hl, ho, q⟩ := h
  simp [startE, -List.all_eq_true, -List.all_eq_false]
  refine lc_map (zipD xs (xs.drop 1)) 0 (fun R h => by simpa using h) (fun d => .bool (match d with | PyData.tuple [x, y] => dataLt x y | _ => false)) (by rw [zipD_len]; omega) (fun d hd n1 Q' h => ?_) (bools_of ?_)
  · obtain ⟨i, hi⟩ := List.getElem?_of_mem hd
    obtain ⟨x, y, h1, h2, rfl⟩ := zipD_get hi
    have hm : (x, y) ∈ xs.zip (xs.drop 1) := List.mem_of_getElem? (i := i) (by rw [List.getElem?_zip_eq_some]; exact ⟨h1, h2⟩)
    have hk := ho x y hm
    simpa [hk] using h
  · rw [all_map_id]
    have e := asc_eq xs (xs.drop 1)
    rw [e]
    exact q
theorem d_kept_pair (bi : ∀ x ∈ BI, mg x = none) (D : DefT K mg "kept_pair" s_kept_pair ps_kept_pair) (D_is_row : DefP P w K mg base 2 "is_row" 2 S_is_row) (D_is_below : DefP P w K mg base 3 "is_below" 2 S_is_below) (D_kept_word : DefP P w K mg base 4 "kept_word" 2 S_kept_word) :
    DefP P w K mg base 5 "kept_pair" 3 S_kept_pair := by
  refine D.p N_kept_pair sc_kept_pair fun f cdv A outer s H E hr => ⟨_, _, jss_cons (js_if ((jw_or (jt_not (jt_b (je_f D_is_row hr (ja_cons (je_var 0) (ja_cons je_int ja_nil))))) (jw_or1 (jt_not (jt_b (je_f D_is_below hr (ja_cons (je_ix (je_var 0) je_int) (ja_cons (je_var 1) ja_nil))))))).jt) (jss_one (js_ret je_non)) (jss_nil))
      (jss_cons (js_asg (je_f D_kept_word hr (ja_cons (je_var 2) (ja_cons (je_ix (je_var 0) je_int) ja_nil))) (jg_name 3 sc_kept_pair.nd rfl (by first | exact Or.inl rfl | exact Or.inr rfl)))
      (jss_one (js_ret (je_if (jt_isN (je_var 3)) je_non (je_tup (ja_cons (je_ix (je_var 0) je_int) (ja_cons (je_var 3) ja_nil))))))), fun ds Q hl h => ?_⟩
  obtain ⟨d, st, sg, rfl, hd, q⟩ := h
  simp [startE]
  by_cases hr : row d 2 = true
  · obtain ⟨xs, e, hx⟩ := row_len hr (n := 2) rfl
    obtain ⟨a, b, rfl⟩ := len2 hx
    have hb : lenOk b = true := lenOks_mem (lenOk_seq hd e).2 b (by simp)
    simp only [keptP, e] at q
    by_cases ha : below st a = true
    · cases hn : noneD (keptW (.int sg) b) <;> simp [hr, e, ha, hb, hn] at q ⊢ <;> exact q
    · simp [hr, e, ha] at q ⊢
      exact q
  · have : keptP st sg d = .none := by
      unfold keptP
      cases e : seqD d with
      | none => rfl
      | some xs =>
        match xs, e with
        | [a, b], e => exact absurd (by unfold row; rw [e]; rfl) hr
        | [], _ => rfl
        | [_], _ => rfl
        | _ :: _ :: _ :: _, _ => rfl
    rw [this] at q
    simp [hr]
    exact q
theorem d_kept_move (bi : ∀ x ∈ BI, mg x = none) (D : DefT K mg "kept_move" s_kept_move ps_kept_move) (D_is_row : DefP P w K mg base 2 "is_row" 2 S_is_row) (D_is_below : DefP P w K mg base 3 "is_below" 2 S_is_below) (D_kept_word : DefP P w K mg base 4 "kept_word" 2 S_kept_word) :
    DefP P w K mg base 5 "kept_move" 4 S_kept_move := by
  refine D.p N_kept_move sc_kept_move fun f cdv A outer s H E hr => ⟨_, _, jss_cons (js_if ((jw_or (jt_not (jt_b (je_f D_is_row hr (ja_cons (je_var 0) (ja_cons je_int ja_nil))))) (jw_or (jt_not (jt_b (je_f D_is_below hr (ja_cons (je_ix (je_var 0) je_int) (ja_cons (je_var 1) ja_nil))))) (jw_or1 (jt_not (jt_b (je_f D_is_below hr (ja_cons (je_ix (je_var 0) je_int) (ja_cons (je_var 2) ja_nil)))))))).jt) (jss_one (js_ret je_non)) (jss_nil))
      (jss_cons (js_asg (je_f D_kept_word hr (ja_cons (je_var 3) (ja_cons (je_ix (je_var 0) je_int) ja_nil))) (jg_name 4 sc_kept_move.nd rfl (by first | exact Or.inl rfl | exact Or.inr rfl)))
      (jss_one (js_ret (je_if ((jw_or (jt_isN (je_var 4)) (jw_or1 (jt_not (jt_b (je_f D_is_below hr (ja_cons (je_ix (je_var 0) je_int) (ja_cons (je_var 1) ja_nil))))))).jt) je_non (je_tup (ja_cons (je_ix (je_var 0) je_int) (ja_cons (je_ix (je_var 0) je_int) (ja_cons (je_var 4) (ja_cons (je_ix (je_var 0) je_int) ja_nil))))))))), fun ds Q hl h => ?_⟩
  obtain ⟨d, st, le, sg, rfl, hd, q⟩ := h
  simp [startE]
  by_cases hr : row d 4 = true
  · obtain ⟨xs, e, hx⟩ := row_len hr (n := 4) rfl
    obtain ⟨a, b, c, e', rfl⟩ := len4 hx
    have hb : lenOk c = true := lenOks_mem (lenOk_seq hd e).2 c (by simp)
    simp only [keptV, e] at q
    by_cases ha : below st a = true
    · by_cases hb2 : below le b = true
      · cases hn : noneD (keptW (.int sg) c) <;> cases he : below st e' <;> simp [hr, e, ha, hb, hn, hb2, he] at q ⊢ <;> exact q
      · simp [hr, e, ha, hb2] at q ⊢
        exact q
    · simp [hr, e, ha] at q ⊢
      exact q
  · have : keptV st le sg d = .none := by
      unfold keptV
      cases e : seqD d with
      | none => rfl
      | some xs =>
        match xs, e with
        | [a, b, c, d], e => exact absurd (by unfold row; rw [e]; rfl) hr
        | [], _ => rfl
        | [_], _ => rfl
        | [_, _], _ => rfl
        | [_, _, _], _ => rfl
        | _ :: _ :: _ :: _ :: _ :: _, _ => rfl
    rw [this] at q
    simp [hr]
    exact q
theorem d_kept_all (bi : ∀ x ∈ BI, mg x = none) (D : DefT K mg "kept_all" s_kept_all ps_kept_all) (D_is_ascending : DefP P w K mg base 1 "is_ascending" 1 S_is_asc) :
    DefP P w K mg base 2 "kept_all" 1 S_kept_all := by
  refine D.p N_kept_all sc_kept_all fun f cdv A outer s H E hr => ⟨_, _, jss_one (js_ret (je_if ((jw_or (jc_t (c_in hr) je_non (je_var 0)) (jw_or1 (jt_not (jt_b (je_f D_is_ascending hr (ja_cons (je_var 0) ja_nil)))))).jt) je_non (je_tupOf (by rfl) (bi _ (by decide)) (je_var 0)))), fun ds Q hl h => ?_⟩
  obtain ⟨xs, rfl, hl, ho, ha, q⟩ := h
  simp [startE, ho, -List.any_eq_true, -List.any_eq_false]
  cases hn : xs.any noneD with
  | true => simpa [keptA, hn] using q
  | false =>
    have hn' : ∀ x ∈ xs, noneD x = false := fun x hx => by
      rw [List.any_eq_false] at hn
      simpa using hn x hx
    cases hb : ascD xs <;> simp [keptA, hn, hb, hl, ha hn'] at q ⊢ <;> exact q
theorem d_kept_machine (bi : ∀ x ∈ BI, mg x = none) (D : DefT K mg "kept_machine" s_kept_machine ps_kept_machine) (D_is_row : DefP P w K mg base 2 "is_row" 2 S_is_row) (D_is_whole : DefP P w K mg base 1 "is_whole" 1 (sF1 fun d => .bool (whole d)))
    (D_is_list : DefP P w K mg base 1 "is_list" 1 (sF1 fun d => .bool (isSeq d))) (D_kept_pair : DefP P w K mg base 5 "kept_pair" 3 S_kept_pair) (D_kept_move : DefP P w K mg base 5 "kept_move" 4 S_kept_move) (D_kept_all : DefP P w K mg base 2 "kept_all" 1 S_kept_all) :
    DefP P w K mg base 6 "kept_machine" 1 S_kept_machine := by
  refine D.p N_kept_machine sc_kept_machine fun f cdv A outer s H E hr => ⟨_, _, jss_cons (js_if ((jw_or (jt_not (jt_b (je_f D_is_row hr (ja_cons (je_var 0) (ja_cons je_int ja_nil))))) (jw_or1 (jt_not (jt_b (je_all (by rfl) (bi _ (by decide)) ((jl_lc [("one", 8)] sc_kept_machine.nd (ji_seq (je_sl (je_var 0) jo_none (jo_some je_int))) (show blkC N_kept_machine (defScope s_kept_machine) _ _ = true by decide +kernel) (fun _ _ _ _ _ => jg_name 8 sc_kept_machine.nd rfl (by first | exact Or.inl rfl | exact Or.inr rfl)) (fun _ _ _ _ _ => jts_nil) (fun _ _ _ _ _ => (je_and (je_f D_is_whole hr (ja_cons (je_var 8) ja_nil)) (je_one (jc_v c_gt (je_var 8) je_int))))).je')))))).jt) (jss_one (js_ret je_non)) (jss_nil))
      (jss_cons (js_asg (je_sl (je_var 0) jo_none (jo_some je_int)) (jg_tup 3 (jgs_cons (jg_name 1 sc_kept_machine.nd rfl (by first | exact Or.inl rfl | exact Or.inr rfl)) (jgs_cons (jg_name 2 sc_kept_machine.nd rfl (by first | exact Or.inl rfl | exact Or.inr rfl)) (jgs_cons (jg_name 3 sc_kept_machine.nd rfl (by first | exact Or.inl rfl | exact Or.inr rfl)) jgs_nil)))))
      (jss_cons (js_if (jt_not (jt_b (je_all (by rfl) (bi _ (by decide)) ((jl_lc [("part", 7)] sc_kept_machine.nd (ji_seq (je_sl (je_var 0) (jo_some je_int) jo_none)) (show blkC N_kept_machine (defScope s_kept_machine) _ _ = true by decide +kernel) (fun _ _ _ _ _ => jg_name 7 sc_kept_machine.nd rfl (by first | exact Or.inl rfl | exact Or.inr rfl)) (fun _ _ _ _ _ => jts_nil) (fun _ _ _ _ _ => je_f D_is_list hr (ja_cons (je_var 7) ja_nil))).je')))) (jss_one (js_ret je_non)) (jss_nil))
      (jss_cons (js_asg (je_f D_kept_all hr (ja_cons ((jl_lc [("part", 7)] sc_kept_machine.nd (ji_seq (je_ix (je_var 0) je_int)) (show blkC N_kept_machine (defScope s_kept_machine) _ _ = true by decide +kernel) (fun _ _ _ _ _ => jg_name 7 sc_kept_machine.nd rfl (by first | exact Or.inl rfl | exact Or.inr rfl)) (fun _ _ _ _ _ => jts_nil) (fun _ _ _ _ _ => je_f D_kept_pair hr (ja_cons (je_var 7) (ja_cons (je_var 1) (ja_cons (je_var 3) ja_nil))))).je') ja_nil)) (jg_name 4 sc_kept_machine.nd rfl (by first | exact Or.inl rfl | exact Or.inr rfl)))
      (jss_cons (js_asg (je_f D_kept_all hr (ja_cons ((jl_lc [("part", 7)] sc_kept_machine.nd (ji_seq (je_ix (je_var 0) je_int)) (show blkC N_kept_machine (defScope s_kept_machine) _ _ = true by decide +kernel) (fun _ _ _ _ _ => jg_name 7 sc_kept_machine.nd rfl (by first | exact Or.inl rfl | exact Or.inr rfl)) (fun _ _ _ _ _ => jts_nil) (fun _ _ _ _ _ => je_f D_kept_move hr (ja_cons (je_var 7) (ja_cons (je_var 1) (ja_cons (je_var 2) (ja_cons (je_var 3) ja_nil)))))).je') ja_nil)) (jg_name 5 sc_kept_machine.nd rfl (by first | exact Or.inl rfl | exact Or.inr rfl)))
      (jss_cons (js_asg (je_f D_kept_all hr (ja_cons ((jl_lc [("part", 7)] sc_kept_machine.nd (ji_seq (je_ix (je_var 0) je_int)) (show blkC N_kept_machine (defScope s_kept_machine) _ _ = true by decide +kernel) (fun _ _ _ _ _ => jg_name 7 sc_kept_machine.nd rfl (by first | exact Or.inl rfl | exact Or.inr rfl)) (fun _ _ _ _ _ => jts_nil) (fun _ _ _ _ _ => je_f D_kept_pair hr (ja_cons (je_var 7) (ja_cons (je_var 1) (ja_cons (je_var 3) ja_nil))))).je') ja_nil)) (jg_name 6 sc_kept_machine.nd rfl (by first | exact Or.inl rfl | exact Or.inr rfl)))
      (jss_one (js_ret (je_if ((jw_or (jt_isN (je_var 4)) (jw_or (jt_isN (je_var 5)) (jw_or1 (jt_isN (je_var 6))))).jt) je_non (je_tup (ja_cons (je_var 1) (ja_cons (je_var 2) (ja_cons (je_var 3) (ja_cons (je_var 4) (ja_cons (je_var 5) (ja_cons (je_var 6) ja_nil))))))))))))))), fun ds Q hl h => ?_⟩
  obtain ⟨d, rfl, hd, q⟩ := h
  simp [startE, -List.all_eq_true, -List.all_eq_false]
  by_cases hr6 : row d 6 = true
  · refine .inr ⟨hr6, ?_⟩
    obtain ⟨xs, e, hx⟩ := row_len hr6 (n := 6) rfl
    obtain ⟨a, b, c, ss, mm, ee, rfl⟩ := len6 hx
    have hlen := (lenOk_seq hd e).2
    have hls := lenOks_mem hlen
    have hq := isSeq_of e
    refine lc_map [a, b, c] 0 (fun R h => by simpa [e, hq] using h) (fun x => .bool (posI x)) (by show 3 ≤ 100000; decide) (fun x hx n1 Q' h => ?_) (bools_of ?_)
    · cases x with
      | int i => simpa [posI] using h
      | _ => simpa [posI] using h
    · rw [all_map_id]
      have qm : keptM d = keptM6 a b c ss mm ee := by unfold keptM; rw [e]
      rw [qm] at q
      unfold keptM6 at q
      have ea : [a, b, c].all posI = (posI a && posI b && posI c) := by simp [Bool.and_assoc]
      rw [ea]
      cases hall : (posI a && posI b && posI c) with
      | false =>
        rw [if_neg Bool.false_ne_true]
        simpa [hall] using q
      | true =>
        rw [if_pos rfl]
        simp only [Bool.and_eq_true] at hall
        obtain ⟨⟨pa, pb⟩, pc⟩ := hall
        have ia := posI_int pa
        have ib := posI_int pb
        have ic := posI_int pc
        generalize intOf a = i at ia q
        generalize intOf b = j at ib q
        generalize intOf c = k at ic q
        subst ia ib ic
        simp [hq, e, -List.all_eq_true, -List.all_eq_false]
        refine lc_map [ss, mm, ee] 0 (fun R h => by simpa [e, hq] using h) (fun x => .bool (isSeq x)) (by show 3 ≤ 100000; decide) (fun x hx n1 Q' h => by simpa using h) (bools_of ?_)
        rw [all_map_id]
        have es : [ss, mm, ee].all isSeq = (isSeq ss && isSeq mm && isSeq ee) := by simp [Bool.and_assoc]
        rw [es]
        cases hseq : (isSeq ss && isSeq mm && isSeq ee) with
        | false =>
          rw [if_neg Bool.false_ne_true]
          simpa [hseq] using q
        | true =>
          rw [if_pos rfl]
          rw [hseq, pa, pb, pc] at q
          simp only [Bool.and_self, if_true] at q
          simp only [Bool.and_eq_true] at hseq
          obtain ⟨⟨qs, qm'⟩, qe⟩ := hseq
          have is := items_of qs
          have im := items_of qm'
          have ie := items_of qe
          have ls := lenOk_seq (hls ss (by simp)) is
          have lm := lenOk_seq (hls mm (by simp)) im
          have le := lenOk_seq (hls ee (by simp)) ie
          have fs := lenOks_mem ls.2
          have fm := lenOks_mem lm.2
          have fe := lenOks_mem le.2
          generalize itemsOf ss = xs at *
          generalize itemsOf mm = ys at *
          generalize itemsOf ee = zs at *
          have r1 := rows_P i k xs
          have r2 := rows_V i j k ys
          have r3 := rows_P i k zs
          refine lc_map xs 0 (fun R h => by simpa [e, is] using h) (keptP i k) ls.1 (fun x hx n1 Q' h => by simpa [fs x hx] using h) ⟨by simpa using ls.1, r1.ok, r1.asc, ?_⟩
          refine lc_map ys 0 (fun R h => by simpa [e, im] using h) (keptV i j k) lm.1 (fun x hx n1 Q' h => by simpa [fm x hx] using h) ⟨by simpa using lm.1, r2.ok, r2.asc, ?_⟩
          refine lc_map zs 0 (fun R h => by simpa [e, ie] using h) (keptP i k) le.1 (fun x hx n1 Q' h => by simpa [fe x hx] using h) ⟨by simpa using le.1, r3.ok, r3.asc, ?_⟩
          unfold mkM at q
          cases n1 : noneD (keptA (xs.map (keptP i k))) with
          | true => simpa [n1] using q
          | false =>
            cases n2 : noneD (keptA (ys.map (keptV i j k))) with
            | true => simpa [n1, n2] using q
            | false =>
              cases n3 : noneD (keptA (zs.map (keptP i k))) with
              | true => simpa [n1, n2, n3] using q
              | false => simpa [n1, n2, n3] using q
  · refine .inl ⟨by simpa using hr6, ?_⟩
    rw [keptM_no hr6] at q
    exact q
theorem d_is_machine (bi : ∀ x ∈ BI, mg x = none) (D : DefT K mg "is_machine" s_is_machine ps_is_machine) (D_kept_machine : DefP P w K mg base 6 "kept_machine" 1 S_kept_machine) :
    DefP P w K mg base 7 "is_machine" 1 S_is_machine := by
  refine D.p N_is_machine sc_is_machine fun f cdv A outer s H E hr => ⟨_, _, jss_one (js_ret (je_notN (je_f D_kept_machine hr (ja_cons (je_var 0) ja_nil)))), fun ds Q hl h => ?_⟩
  obtain ⟨d, rfl, hd, q⟩ := h
  simp [startE, hd]
  exact q
end
end MC
namespace MC
open PySem PySem.Spec PyProof.Rows L2 DD
open Evl (Ex)
abbrev s__law_stream : Stmt := top 16
abbrev N__law_stream : List Str := ["script"]
abbrev ps__law_stream : List Str := ["script"]
theorem sc__law_stream : FnScope N__law_stream ps__law_stream (defScope s__law_stream) := ⟨rfl, rfl, rfl, by decide +kernel, rfl, by decide +kernel, by decide +kernel⟩
abbrev s__law_draw : Stmt := top 17
abbrev N__law_draw : List Str := ["stream", "many", "cell", "digit", "mixed"]
abbrev ps__law_draw : List Str := ["stream", "many"]
theorem sc__law_draw : FnScope N__law_draw ps__law_draw (defScope s__law_draw) := ⟨rfl, rfl, rfl, by decide +kernel, rfl, by decide +kernel, by decide +kernel⟩
abbrev s__law_pick : Stmt := top 18
abbrev N__law_pick : List Str := ["stream", "things"]
abbrev ps__law_pick : List Str := ["stream", "things"]
theorem sc__law_pick : FnScope N__law_pick ps__law_pick (defScope s__law_pick) := ⟨rfl, rfl, rfl, by decide +kernel, rfl, by decide +kernel, by decide +kernel⟩
/-! ### the stream of draws -/
def S_draw : ZSp := fun ds n Q => ∃ m : Int, ds = [.int m] ∧ 1 ≤ m ∧ m < 1073741824 ∧ n < 1099511627776 ∧ ∀ x : Int, 0 ≤ x → x < m → Q (.int x) (n + 1)
@[simp] theorem S_draw_at (m : Int) (n : Nat) (Q : PyData → Nat → Prop) : S_draw [.int m] n Q ↔ (1 ≤ m ∧ m < 1073741824 ∧ n < 1099511627776 ∧ ∀ x : Int, 0 ≤ x → x < m → Q (.int x) (n + 1)) := ⟨fun ⟨_, h, q⟩ => by cases h; exact q, fun q => ⟨_, rfl, q⟩⟩
def S_pick : ZSp := fun ds n Q => ∃ xs, ds = [.list xs] ∧ 1 ≤ xs.length ∧ xs.length ≤ 100000 ∧ n < 1099511627776 ∧ ∀ x ∈ xs, Q x (n + 1)
@[simp] theorem S_pick_at (xs : List PyData) (n : Nat) (Q : PyData → Nat → Prop) : S_pick [.list xs] n Q ↔ (1 ≤ xs.length ∧ xs.length ≤ 100000 ∧ n < 1099511627776 ∧ ∀ x ∈ xs, Q x (n + 1)) := ⟨fun ⟨_, h, q⟩ => by cases h; exact q, fun q => ⟨_, rfl, q⟩⟩
section
variable {P : Program} {w : World} {K : PySem.W.Frag} {mg : Str → Option Value} {base : Heap}
/-- what stands at the stream's two addresses -/
structure StAt (st sl : Addr) (ns : List Int) (c k m : Int) (H : Hp) : Prop where
  a : H st = some (.lst [.ref sl, .int c, .int k, .int m])
  b : H sl = some (.lst (ns.map V.int))
  ne : sl ≠ st
theorem StAt.set {st sl : Addr} {ns : List Int} {c k m : Int} {H : Hp} (h : StAt st sl ns c k m H) (c' k' m' : Int) : StAt st sl ns c' k' m' (L2.upd H st (.lst [.ref sl, .int c', .int k', .int m'])) := ⟨upd_same, by rw [upd_ne h.ne]; exact h.b, h.ne⟩
theorem StAt.pop {st sl : Addr} {ns : List Int} {c k m : Int} {H : Hp} (h : StAt st sl ns c k m H) (ns' : List Int) : StAt st sl ns' c k m (L2.upd H sl (.lst (ns'.map V.int))) := ⟨by rw [upd_ne (Ne.symm h.ne)]; exact h.a, upd_same, h.ne⟩
/-- all but the stream's stands -/
def Kp (st sl : Addr) (H H' : Hp) : Prop := ∀ b o, b ≠ st → b ≠ sl → H b = some o → H' b = some o
theorem Kp.u1 {st sl : Addr} {H H' : Hp} {o : HO} (h : Kp st sl H H') : Kp st sl H (L2.upd H' st o) := fun b u h1 h2 e => by rw [upd_ne h1]; exact h b u h1 h2 e
theorem Kp.u2 {st sl : Addr} {H H' : Hp} {o : HO} (h : Kp st sl H H') : Kp st sl H (L2.upd H' sl o) := fun b u h1 h2 e => by rw [upd_ne h2]; exact h b u h1 h2 e
theorem Kp.un {st sl p : Addr} {H H' : Hp} {o : HO} (h : Kp st sl H H') (hp : H' p = none) : Kp st sl H (L2.upd H' p o) := fun b u h1 h2 e => by
  have := h b u h1 h2 e
  rw [upd_ne (ne_of_none this hp)]; exact this
theorem StAt.un {st sl p : Addr} {ns : List Int} {c k m : Int} {H : Hp} {o : HO} (h : StAt st sl ns c k m H) (hp : H p = none) : StAt st sl ns c k m (L2.upd H p o) := ⟨by rw [upd_ne (ne_of_none h.a hp)]; exact h.a, by rw [upd_ne (ne_of_none h.b hp)]; exact h.b, h.ne⟩
theorem dpAll_ints {K : PySem.W.Frag} {H : Hp} : ∀ ns : List Int, DpAll K H (ns.map V.int) (ns.map PyData.int)
  | [] => .nil
  | n :: ns => .cons (.int n) (dpAll_ints ns)
theorem pl0 {b : Expr} (h : PlainIx b) : PlainIx b := h
theorem d__law_draw (bi : ∀ x ∈ BI, mg x = none) (D : DefT K mg "_law_draw" s__law_draw ps__law_draw) : DefZ P w K mg base 1 "_law_draw" 1 S_draw := by
  obtain ⟨f, fd, F, hm, hb⟩ := D.ex
  refine ⟨f, fd, ps__law_draw, ?_, hm, F.kp, hb⟩
  refine F.ok sc__law_draw (fun vs H Q E h => h.1) (fun cdv A outer s H vs Q E hr h => ?_)
  obtain ⟨hl, st, sl, us, F0, ds, n, R, rfl, eF, o1, o2, hS, ra, ⟨m, rfl, m1, m2, hn, q⟩, kk⟩ := h
  cases ra with
  | cons r1 r2 =>
    cases r1
    cases r2
    obtain ⟨ns, c, k, x, ha, hbb, c0, k0, kn, x0, x1, hne⟩ := hS
    have nd := sc__law_draw.nd
    have S0 : StAt st sl ns c k x H := ⟨ha, hbb, hne⟩
    refine ⟨_, pss_cons (ps_asg (pe_op op_add (pe_ix ix_list (pv 0) pe_int (fun _ _ => rfl)) pe_int) (pg_sub (pv 0) pe_int set_list))
      (Evl.pss_cut (ps_while PassesOwn.never (PW.pt (pw_and (pt_cmpR op_eq (pe_ix ix_list (pv 0) pe_int (fun _ _ => rfl)) pe_int (nomark _)) (pw_and1 (pt_cmpR (op_neD hr.units) (pe_ix ix_list (pv 0) pe_int (fun _ _ => rfl)) (pe_lst pa_nil) (nomark _)))))
        (pss_cons (ps_set (i := 2) nd rfl (Or.inl rfl) (pe_callB call_abs (by rfl) (bi _ (by decide)) (by decide +kernel) (pa_cons (pe_bm PySem.F.plainAttrs_list PySem.F.slot_list_pop PySem.F.type_list_pop mt_popAt (pe_ix ix_list (pv 0) pe_int (fun _ _ => rfl)) (pa_cons pe_int pa_nil)) pa_nil)))
        (pss_cons (ps_asg (pe_op op_mod (pe_callTy call_int1 (by rfl) (bi _ (by decide)) (by decide +kernel) (pa_cons (pe_op op_add (pe_op op_add (pe_op op_mul (pe_ix ix_list (pv 0) pe_int (fun _ _ => rfl)) pe_int) (pv 2)) pe_int) pa_nil)) pe_int) (pg_sub (pv 0) pe_int set_list))
        (pss_one (ps_asg (pe_ifExp (pt_cmpR op_ge (pv 2) (pe_op op_pow pe_int pe_int) (nomark _)) (pv 2) pe_int) (pg_sub (pv 0) pe_int set_list))))))
      (pss_cons (ps_if (pt_cmpR op_gt (pe_ix ix_list (pv 0) pe_int (fun _ _ => rfl)) pe_int (nomark _))
        (pss_cons (ps_set (i := 3) nd rfl (Or.inl rfl) (pe_op op_modN (pe_callTy call_int1 (by rfl) (bi _ (by decide)) (by decide +kernel) (pa_cons (pe_ix ix_list (pv 0) pe_int (fun _ _ => rfl)) pa_nil)) (pv 1)))
        (pss_cons (ps_asg (pe_op op_fdivN (pe_ix ix_list (pv 0) pe_int (fun _ _ => rfl)) (pv 1)) (pg_sub (pv 0) pe_int set_list))
        (pss_one (ps_ret (pv 3))))) pss_nil)
      (pss_cons (ps_set (i := 4) nd rfl (Or.inl rfl) (pe_op op_mod (pe_callTy call_int1 (by rfl) (bi _ (by decide)) (by decide +kernel) (pa_cons (pe_op op_pow (pe_op op_add (pe_op op_add (pe_ix ix_list (pv 0) pe_int (fun _ _ => rfl)) (pe_op op_mul pe_int (pe_ix ix_list (pv 0) pe_int (fun _ _ => rfl)))) pe_int) pe_int) pa_nil)) pe_int))
      (pss_one (ps_ret (pe_op op_modN (pe_op op_mod (pe_callTy call_int1 (by rfl) (bi _ (by decide)) (by decide +kernel) (pa_cons (pe_op op_pow (pe_op op_add (pe_op op_add (pe_op op_mul (pv 4) pe_int) (pe_op op_mul pe_int (pe_ix ix_list (pv 0) pe_int (fun _ _ => rfl)))) pe_int) pe_int) pa_nil)) pe_int) (pv 1))))))), ?_⟩
    -- stream[2] = stream[2] + 1
    refine ⟨_, rfl, st, _, 2, .int k, rfl, rfl, SqL.of S0.a, rfl, _, _, rfl, rfl, ?_⟩
    refine ⟨_, rfl, st, _, 2, 2, rfl, rfl, S0.a, rfl, ?_⟩
    have S1 := S0.set c (k + 1) x
    have K1 : Kp st sl H (L2.upd H st (.lst [.ref sl, .int c, .int (k + 1), .int x])) := Kp.u1 fun _ _ _ _ e => e
    -- the loop
    have Z : ∀ b, L2.upd H st (.lst [.ref sl, .int c, .int (k + 1), .int x]) b = none → H b = none := fun b hb => by
      by_cases e : b = st
      · subst e; rw [upd_same] at hb; cases hb
      · rw [upd_ne e] at hb; exact hb
    refine ⟨fun σ' H' => ∃ (ns' : List Int) (c' x' : Int) (cv : Option V), σ' = [some (.ref st), some (.int m), cv, none, none] ∧ StAt st sl ns' c' (k + 1) x' H' ∧ 0 ≤ c' ∧ 0 ≤ x' ∧ x' < 2147483647 ∧ Kp st sl H H' ∧ (∀ b, H' b = none → H b = none), ?_, ?_⟩
    · refine ⟨fun mm σ' H' => ∃ (ns' : List Int) (c' x' : Int) (cv : Option V), mm = ns'.length ∧ σ' = [some (.ref st), some (.int m), cv, none, none] ∧ StAt st sl ns' c' (k + 1) x' H' ∧ 0 ≤ c' ∧ 0 ≤ x' ∧ x' < 2147483647 ∧ Kp st sl H H' ∧ (∀ b, H' b = none → H b = none), ⟨ns.length, ns, c, x, none, rfl, rfl, S1, c0, x0, x1, K1, Z⟩, ?_⟩
      rintro mm σ' H' ⟨ns', c', x', cv, rfl, rfl, S, c0', x0', x1', Kk, Dm⟩
      -- stream[1] == 0
      refine ⟨_, rfl, st, _, 1, .int c', rfl, rfl, SqL.of S.a, rfl, rfl, _, rfl, ?_⟩
      have out : ∀ H2, StAt st sl ns' c' (k + 1) x' H2 → Kp st sl H H2 → (∀ b, H2 b = none → H b = none) → ∃ (ns' : List Int) (c' x' : Int) (cv1 : Option V), [some (V.ref st), some (V.int m), cv, none, none] = [some (V.ref st), some (V.int m), cv1, none, none] ∧ StAt st sl ns' c' (k + 1) x' H2 ∧ 0 ≤ c' ∧ 0 ≤ x' ∧ x' < 2147483647 ∧ Kp st sl H H2 ∧ (∀ b, H2 b = none → H b = none) :=
        fun H2 s2 k2 d2 => ⟨ns', c', x', cv, rfl, s2, c0', x0', x1', k2, d2⟩
      refine ite2 (fun hc => ?_) (fun hc => ?_)
      · -- stream[0] != []
        refine ⟨_, rfl, st, _, 0, .ref sl, rfl, rfl, SqL.of S.a, rfl, Evl.sz_of (by show 0 ≤ 100000; decide), fun p hp => ?_⟩
        have S2 := S.un (o := .lst []) hp
        have K2 := Kk.un (o := .lst []) hp
        have D2 : ∀ b, L2.upd H' p (.lst []) b = none → H b = none := fun b hb => by
          by_cases e : b = p
          · subst e; rw [upd_same] at hb; cases hb
          · rw [upd_ne e] at hb; exact Dm b hb
        refine ⟨.list (ns'.map PyData.int), .list [], .lst (SqL.of S2.b) (dpAll_ints ns'), .lst (SqL.of upd_same) .nil, (okD_flat (okD_list (n := 0) (fun d hd => by
          obtain ⟨i, _, rfl⟩ := List.mem_map.mp hd
          exact ⟨rfl, by simp [PyData.depth]⟩) (by decide))).2, rfl, _, rfl, ?_⟩
        cases ns' with
        | nil =>
          refine iteF ?_
          exact out _ S2 K2 D2
        | cons y ys =>
          refine iteT ?_
          refine ⟨fun σ' H' => ∃ m', m' < (y :: ys).length ∧ ∃ (ns' : List Int) (c' x' : Int) (cv : Option V), m' = ns'.length ∧ σ' = [some (.ref st), some (.int m), cv, none, none] ∧ StAt st sl ns' c' (k + 1) x' H' ∧ 0 ≤ c' ∧ 0 ≤ x' ∧ x' < 2147483647 ∧ Kp st sl H H' ∧ (∀ b, H' b = none → H b = none), fun σ' H' h => h, ?_⟩
          -- cell = abs(stream[0].pop(0))
          refine ⟨_, rfl, st, _, 0, .ref sl, rfl, rfl, SqL.of S2.a, rfl, .inl ⟨rfl, _, SqL.of S2.b⟩, sl, _, 0, 0, .int y, rfl, rfl, S2.b, by decide, by decide, ?_, rfl, _, rfl, ?_⟩
          · simp [seqIndex?]
          · have S3 : StAt st sl ys c' (k + 1) x' (L2.upd (L2.upd H' p (.lst [])) sl (.lst (ys.map V.int))) := S2.pop ys
            have K3 : Kp st sl H (L2.upd (L2.upd H' p (.lst [])) sl (.lst (ys.map V.int))) := K2.u2
            have D3 : ∀ b, L2.upd (L2.upd H' p (.lst [])) sl (.lst (ys.map V.int)) b = none → H b = none := fun b hb => by
              by_cases e : b = sl
              · subst e; rw [upd_same] at hb; cases hb
              · rw [upd_ne e] at hb; exact D2 b hb
            have cell0 : 0 ≤ (if y < 0 then -y else y) := by split <;> omega
            generalize (if y < 0 then -y else y) = cell at cell0
            generalize hH3 : L2.upd (L2.upd H' p (.lst [])) sl (.lst (ys.map V.int)) = H3 at S3 K3 D3
            rw [show L2.upd (L2.upd H' p (.lst [])) sl (.lst (((y :: ys).map V.int).eraseIdx 0)) = H3 from hH3]
            -- stream[3] = ..
            refine ⟨_, rfl, st, _, 3, .int x', rfl, rfl, SqL.of S3.a, rfl, _, _, rfl, rfl, .inl ⟨by omega, by omega⟩, _, rfl, _, _, rfl, rfl, _, _, rfl, rfl, .inl ⟨_, rfl, _, _, rfl, rfl, (by show (0 : Int) < 2147483647; decide), ?_⟩⟩
            refine ⟨_, rfl, st, _, 3, 3, rfl, rfl, S3.a, rfl, ?_⟩
            have x2 : 0 ≤ (x' * 8191 + cell + 3) % 2147483647 := Int.emod_nonneg _ (by decide)
            have x3 : (x' * 8191 + cell + 3) % 2147483647 < 2147483647 := Int.emod_lt_of_pos _ (by decide)
            have S4 := S3.set c' (k + 1) ((x' * 8191 + cell + 3) % 2147483647)
            have K4 := K3.u1 (o := .lst [.ref sl, .int c', .int (k + 1), .int ((x' * 8191 + cell + 3) % 2147483647)])
            have D4 : ∀ b, L2.upd H3 st (.lst [.ref sl, .int c', .int (k + 1), .int ((x' * 8191 + cell + 3) % 2147483647)]) b = none → H b = none := fun b hb => by
              by_cases e : b = st
              · subst e; rw [upd_same] at hb; cases hb
              · rw [upd_ne e] at hb; exact D3 b hb
            -- stream[1] = cell if cell >= 10 ** 18 else 0
            refine ⟨_, rfl, _, _, rfl, rfl, ⟨by decide, by decide, by decide⟩, _, _, rfl, rfl, _, rfl, ?_⟩
            have fin : ∀ cc : Int, 0 ≤ cc → ∃ m', m' < (y :: ys).length ∧ ∃ (ns2 : List Int) (c2 y2 : Int) (cv2 : Option V), m' = ns2.length ∧ [some (V.ref st), some (V.int m), some (V.int cell), none, none] = [some (V.ref st), some (V.int m), cv2, none, none] ∧ StAt st sl ns2 c2 (k + 1) y2 (L2.upd (L2.upd H3 st (.lst [.ref sl, .int c', .int (k + 1), .int ((x' * 8191 + cell + 3) % 2147483647)])) st (.lst [.ref sl, .int cc, .int (k + 1), .int ((x' * 8191 + cell + 3) % 2147483647)])) ∧ 0 ≤ c2 ∧ 0 ≤ y2 ∧ y2 < 2147483647 ∧
                Kp st sl H (L2.upd (L2.upd H3 st (.lst [.ref sl, .int c', .int (k + 1), .int ((x' * 8191 + cell + 3) % 2147483647)])) st (.lst [.ref sl, .int cc, .int (k + 1), .int ((x' * 8191 + cell + 3) % 2147483647)])) ∧ (∀ b, (L2.upd (L2.upd H3 st (.lst [.ref sl, .int c', .int (k + 1), .int ((x' * 8191 + cell + 3) % 2147483647)])) st (.lst [.ref sl, .int cc, .int (k + 1), .int ((x' * 8191 + cell + 3) % 2147483647)])) b = none → H b = none) := fun cc hcc => by
              refine ⟨ys.length, by simp, ys, cc, ((x' * 8191 + cell + 3) % 2147483647), some (.int cell), rfl, rfl, S4.set cc (k + 1) ((x' * 8191 + cell + 3) % 2147483647), hcc, x2, x3, K4.u1, fun b hb => ?_⟩
              by_cases e : b = st
              · subst e; rw [upd_same] at hb; cases hb
              · rw [upd_ne e] at hb; exact D4 b hb
            refine ite2 (fun _ => ?_) (fun _ => ?_)
            · exact ⟨_, rfl, _, rfl, st, _, 1, 1, rfl, rfl, S4.a, rfl, fin cell cell0⟩
            · exact ⟨_, rfl, st, _, 1, 1, rfl, rfl, S4.a, rfl, fin 0 (by decide)⟩
      · exact out H' S Kk Dm
    · rintro σ' H' ⟨ns', c', x', cv, rfl, S, c0', x0', x1', Kk, Dm⟩
      have ret : ∀ (v : Int) (H2 : Hp) (ns2 : List Int) (c2 y2 : Int), 0 ≤ v → v < m → StAt st sl ns2 c2 (k + 1) y2 H2 → 0 ≤ c2 → 0 ≤ y2 → y2 < 2147483647 → Kp st sl H H2 → (∀ b, H2 b = none → H b = none) → Q (.int v) H2 := fun v H2 ns2 c2 y2 v0 v1 s2 c20 y20 y21 k2 d2 => by
        refine kk (.int v) H2 F0 (.int v) (n + 1) ⟨fun b o hz e => k2 b o (fun z => hz (.inl z)) (fun z => hz (.inr z)) e, d2, Evl.Ex.refl F0, fun b o e => k2 b o (fun z => by rw [z, o1] at e; cases e) (fun z => by rw [z, o2] at e; cases e) (eF b o e), fun _ _ h => .inl h⟩ ⟨ns2, c2, k + 1, y2, s2.a, s2.b, c20, by omega, by omega, y20, y21, s2.ne⟩ (.int v) (q v v0 v1)
      have fm : ∀ a : Int, 0 ≤ a.fmod m ∧ a.fmod m < m := fun a => by
        rw [Int.fmod_eq_emod_of_nonneg _ (by omega)]
        exact ⟨Int.emod_nonneg _ (by omega), Int.emod_lt_of_pos _ (by omega)⟩
      -- if stream[1] > 0
      refine ⟨_, rfl, st, _, 1, .int c', rfl, rfl, SqL.of S.a, rfl, _, _, rfl, rfl, _, rfl, ?_⟩
      refine ite2 (fun hc => ?_) (fun hc => ?_)
      · -- digit = int(stream[1]) % many
        refine ⟨_, rfl, st, _, 1, .int c', rfl, rfl, SqL.of S.a, rfl, .inl ⟨_, rfl, _, rfl, _, _, rfl, rfl, (by show m ≠ 0; omega), ?_⟩⟩
        -- stream[1] = stream[1] // many
        refine ⟨_, rfl, st, _, 1, .int c', rfl, rfl, SqL.of S.a, rfl, _, rfl, _, _, rfl, rfl, ⟨by omega, by omega⟩, _, rfl, st, _, 1, 1, rfl, rfl, S.a, rfl, ?_⟩
        have cd : 0 ≤ c'.fdiv m := Int.fdiv_nonneg (by omega) (by omega)
        refine ⟨_, rfl, ret _ _ ns' (c'.fdiv m) x' (fm c').1 (fm c').2 (S.set (c'.fdiv m) (k + 1) x') cd x0' x1' Kk.u1 fun b hb => ?_⟩
        by_cases e : b = st
        · subst e; rw [upd_same] at hb; cases hb
        · rw [upd_ne e] at hb; exact Dm b hb
      · -- mixed
        refine ⟨_, rfl, st, _, 3, .int x', rfl, rfl, SqL.of S.a, rfl, _, rfl, st, _, 2, .int (k + 1), rfl, rfl, SqL.of S.a, rfl, _, _, rfl, rfl, .inl ⟨by decide, by decide⟩, _, _, rfl, rfl, _, _, rfl, rfl, _, _, rfl, rfl, ⟨by decide, by decide, by omega⟩, .inl ⟨_, rfl, _, _, rfl, rfl, (by show (0 : Int) < 2147483629; decide), ?_⟩⟩
        have u0 : 0 ≤ (x' + 7919 * (k + 1) + 104729) ^ (5 : Int).toNat % 2147483629 := Int.emod_nonneg _ (by decide)
        have u1 : (x' + 7919 * (k + 1) + 104729) ^ (5 : Int).toNat % 2147483629 < 2147483629 := Int.emod_lt_of_pos _ (by decide)
        refine ⟨_, rfl, _, _, rfl, rfl, .inl ⟨Int.lt_of_lt_of_le (by decide : -(2 ^ 64) < (0 : Int)) u0, Int.lt_trans u1 (by decide)⟩, _, rfl, st, _, 2, .int (k + 1), rfl, rfl, SqL.of S.a, rfl, _, _, rfl, rfl, .inl ⟨by decide, by decide⟩, _, _, rfl, rfl, _, _, rfl, rfl, _, _, rfl, rfl, ⟨by decide, by decide, ?_⟩,
          .inl ⟨_, rfl, _, _, rfl, rfl, (by show (0 : Int) < 1000000007; decide), _, rfl, _, _, rfl, rfl, (by show m ≠ 0; omega), ?_⟩⟩
        · show (((x' + 7919 * (k + 1) + 104729) ^ (5 : Int).toNat % 2147483629) * 48271 + 30011 * (k + 1) + 29 : Int).natAbs < 2 ^ 64
          omega
        · exact ret _ _ ns' c' x' (fm _).1 (fm _).2 S c0' x0' x1' Kk Dm
theorem d__law_pick (bi : ∀ x ∈ BI, mg x = none) (D : DefT K mg "_law_pick" s__law_pick ps__law_pick) (D__law_draw : DefZ P w K mg base 1 "_law_draw" 1 S_draw) :
    DefZ P w K mg base 2 "_law_pick" 1 S_pick := by
  refine D.z N__law_pick sc__law_pick rfl fun f z cdv A outer s H E hr => ⟨_, _, jss_one (js_ret (je_ix (je_var 1) (je_z 0 D__law_draw hr (ja_cons (je_len (by rfl) (bi _ (by decide)) (je_var 1)) ja_nil)))), fun ds n Q hl h => ?_⟩
  obtain ⟨xs, rfl, h1, h2, h3, q⟩ := h
  simp [startZ, h3]
  refine ⟨by omega, by omega, fun x x0 x1 => ?_⟩
  have hx : x.toNat < xs.length := by omega
  exact ⟨xs[x.toNat], by rw [atI_pos xs x0, List.getElem?_eq_getElem hx], q _ (List.getElem_mem hx)⟩
end
end MC
namespace MC
open PySem PySem.Spec PyProof.Rows L2 DD
open Evl (Ex)
abbrev s__law_same : Stmt := top 19
abbrev N__law_same : List Str := ["found", "due", "mine", "theirs"]
abbrev ps__law_same : List Str := ["found", "due"]
theorem sc__law_same : FnScope N__law_same ps__law_same (defScope s__law_same) := ⟨rfl, rfl, rfl, by decide +kernel, rfl, by decide +kernel, by decide +kernel⟩
abbrev s__law_copied : Stmt := top 20
abbrev N__law_copied : List Str := ["thing", "some", "one", "key"]
abbrev ps__law_copied : List Str := ["thing"]
theorem sc__law_copied : FnScope N__law_copied ps__law_copied (defScope s__law_copied) := ⟨rfl, rfl, rfl, by decide +kernel, rfl, by decide +kernel, by decide +kernel⟩
/-! ### data that the law's helpers take -/
mutual
def gd : PyData → Bool
  | .str x => PyData.canLay0 (.str x)
  | .list xs => decide (xs.length ≤ 100000) && gds xs
  | .tuple xs => decide (xs.length ≤ 100000) && gds xs
  | .dict es => decide (es.length ≤ 100000) && gdk es
  | _ => true
def gds : List PyData → Bool
  | [] => true
  | x :: xs => gd x && gds xs
def gdk : List (PyData × PyData) → Bool
  | [] => true
  | (k, v) :: r => keyA k && gd k && gd v && gdk r
end
mutual
def ht : PyData → Nat
  | .list xs => hts xs + 1
  | .tuple xs => hts xs + 1
  | .dict es => htk es + 3
  | _ => 0
def hts : List PyData → Nat
  | [] => 0
  | x :: xs => max (ht x) (hts xs)
def htk : List (PyData × PyData) → Nat
  | [] => 0
  | (k, v) :: r => max (max (ht k) (ht v)) (htk r)
end
theorem gds_mem {xs : List PyData} (h : gds xs = true) : ∀ d ∈ xs, gd d = true := by
  induction xs with
  | nil => intro d hd; cases hd
  | cons x xs ih =>
    rw [gds, Bool.and_eq_true] at h
    intro d hd
    rcases List.mem_cons.mp hd with e | hd
    · rw [e]; exact h.1
    · exact ih h.2 d hd
theorem gds_of {xs : List PyData} (h : ∀ d ∈ xs, gd d = true) : gds xs = true := by
  induction xs with
  | nil => rfl
  | cons x xs ih => rw [gds, h x (by simp), ih fun d hd => h d (by simp [hd])]; rfl
theorem hts_mem {xs : List PyData} : ∀ d ∈ xs, ht d ≤ hts xs := by
  induction xs with
  | nil => intro d hd; cases hd
  | cons x xs ih =>
    intro d hd
    rw [hts]
    rcases List.mem_cons.mp hd with e | hd
    · rw [e]; omega
    · have := ih d hd; omega
theorem hts_of {xs : List PyData} {n : Nat} (h : ∀ d ∈ xs, ht d ≤ n) : hts xs ≤ n := by
  induction xs with
  | nil => simp [hts]
  | cons x xs ih =>
    have h1 := h x (by simp)
    have h2 := ih fun d hd => h d (by simp [hd])
    rw [hts]; omega
theorem gdk_items : ∀ {es : List (PyData × PyData)}, gdk es = true → (es.all fun q => keyA q.1) = true ∧ gds (es.map pairK) = true
  | [], _ => ⟨rfl, rfl⟩
  | (k, v) :: r, h => by
    rw [gdk] at h
    simp only [Bool.and_eq_true] at h
    have ih := gdk_items h.2
    refine ⟨by simp only [List.all_cons, h.1.1.1, ih.1, Bool.and_self], ?_⟩
    rw [List.map_cons, gds, ih.2]
    simp [pairK, gd, gds, h.1.1.2, h.1.2]
theorem htk_items : ∀ {es : List (PyData × PyData)}, hts (es.map pairK) ≤ htk es + 1
  | [] => by simp [hts, htk]
  | (k, v) :: r => by
    have ih := htk_items (es := r)
    rw [List.map_cons, hts, htk]
    have : ht (pairK (k, v)) = max (ht k) (ht v) + 1 := by simp [pairK, ht, hts]
    omega
mutual
/-- no dict but empty ones -/
def nd : PyData → Bool
  | .list xs => nds xs
  | .tuple xs => nds xs
  | .dict es => es.isEmpty
  | _ => true
def nds : List PyData → Bool
  | [] => true
  | x :: xs => nd x && nds xs
end
theorem nds_mem {xs : List PyData} (h : nds xs = true) : ∀ d ∈ xs, nd d = true := by
  induction xs with
  | nil => intro d hd; cases hd
  | cons x xs ih =>
    rw [nds, Bool.and_eq_true] at h
    intro d hd
    rcases List.mem_cons.mp hd with e | hd
    · rw [e]; exact h.1
    · exact ih h.2 d hd
theorem nds_of {xs : List PyData} (h : ∀ d ∈ xs, nd d = true) : nds xs = true := by
  induction xs with
  | nil => rfl
  | cons x xs ih => rw [nds, h x (by simp), ih fun d hd => h d (by simp [hd])]; rfl
def S_copied (n : Nat) : PSp := fun ds Q => ∃ d, ds = [d] ∧ gd d = true ∧ nd d = true ∧ ht d < n ∧ Q d
@[simp] theorem S_copied_at (n : Nat) (d : PyData) (Q : PyData → Prop) : S_copied n [d] Q ↔ (gd d = true ∧ nd d = true ∧ ht d < n ∧ Q d) := ⟨fun ⟨_, h, q⟩ => by cases h; exact q, fun q => ⟨_, rfl, q⟩⟩
/-! ### _law_same, of equal data -/
def S_same (n : Nat) : PSp := fun ds Q => ∃ d, ds = [d, d] ∧ gd d = true ∧ ht d < n ∧ Q (.bool true)
@[simp] theorem S_same_at (n : Nat) (d e : PyData) (Q : PyData → Prop) : S_same n [d, e] Q ↔ (d = e ∧ gd d = true ∧ ht d < n ∧ Q (.bool true)) := ⟨fun ⟨_, h, q⟩ => by cases h; exact ⟨rfl, q⟩, fun ⟨h, q⟩ => by subst h; exact ⟨_, rfl, q⟩⟩
section
variable {P : Program} {w : World} {K : PySem.W.Frag} {mg : Str → Option Value} {base : Heap}
theorem d__law_same (bi : ∀ x ∈ BI, mg x = none) (D : DefT K mg "_law_same" s__law_same ps__law_same) : ∀ n, DefP P w K mg base n "_law_same" 2 (S_same n)
  | 0 => (D.none rfl).imp fun ds Q hl ⟨d, _, _, h, _⟩ => absurd h (Nat.not_lt_zero _)
  | n + 1 => by
    have D__law_same := d__law_same bi D n
    refine D.p N__law_same sc__law_same fun f cdv A outer s H E hr => ⟨_, _, jss_cons (js_if (jt_b (je_isi_LT bi (je_var 1))) (jss_cons (js_if ((jw_or (jc_t (c_ne hr) (je_isi_list bi (je_var 0)) (je_isi_list bi (je_var 1))) (jw_or1 (jc_t (c_ne hr) (je_isi_tuple bi (je_var 0)) (je_isi_tuple bi (je_var 1))))).jt) (jss_one (js_ret je_bl)) (jss_nil))
      (jss_one (js_ret (je_and (jc_v (c_eq hr) (je_len (by rfl) (bi _ (by decide)) (je_var 0)) (je_len (by rfl) (bi _ (by decide)) (je_var 1))) (je_one (je_all (by rfl) (bi _ (by decide)) ((jl_lc [("mine", 2), ("theirs", 3)] sc__law_same.nd (ji_zip (by rfl) (bi _ (by decide)) (je_var 0) (je_var 1)) (show blkC N__law_same (defScope s__law_same) _ _ = true by decide +kernel) (fun _ _ _ _ _ => jg_tup 2 (jgs_cons (jg_name 2 sc__law_same.nd rfl (by first | exact Or.inl rfl | exact Or.inr rfl)) (jgs_cons (jg_name 3 sc__law_same.nd rfl (by first | exact Or.inl rfl | exact Or.inr rfl)) jgs_nil))) (fun _ _ _ _ _ => jts_nil) (fun _ _ _ _ _ => je_f D__law_same hr (ja_cons (je_var 2) (ja_cons (je_var 3) ja_nil)))).je'))))))) (jss_nil))
      (jss_cons (js_if (jt_b (je_isi_dict bi (je_var 1))) (jss_one (js_ret (je_and (je_isi_dict bi (je_var 0)) (je_one (je_f D__law_same hr (ja_cons ((jl_items bi (je_var 0)).je') (ja_cons ((jl_items bi (je_var 1)).je') ja_nil))))))) (jss_nil))
      (jss_cons (js_if ((jw_or (jt_b (je_isi_bool bi (je_var 1))) (jw_or1 (jt_b (je_isi_bool bi (je_var 0))))).jt) (jss_one (js_ret (je_and (je_isi_bool bi (je_var 1)) (je_and (je_isi_bool bi (je_var 0)) (je_one (jc_v (c_eq hr) (je_var 0) (je_var 1))))))) (jss_nil))
      (jss_cons (js_if ((jw_or (jt_isN (je_var 1)) (jw_or1 (jt_isN (je_var 0)))).jt) (jss_one (js_ret (je_and (je_isN (je_var 1)) (je_one (je_isN (je_var 0)))))) (jss_nil))
      (jss_cons (js_if ((jw_or (jc_t (c_ne hr) (je_isi_int bi (je_var 1)) (je_isi_int bi (je_var 0))) (jw_or1 (jc_t (c_ne hr) (je_isi_str bi (je_var 1)) (je_isi_str bi (je_var 0))))).jt) (jss_one (js_ret je_bl)) (jss_nil))
      (jss_one (js_ret (je_and (je_not (je_isi_LTD bi (je_var 0))) (je_one (jc_v (c_eq hr) (je_var 0) (je_var 1)))))))))), fun ds Q hl h => ?_⟩
    obtain ⟨d, rfl, hg, hn, q⟩ := h
    have key : ∀ xs : List PyData, gds xs = true → hts xs < n → ∀ d ∈ zipD xs xs, ∃ x, d = .tuple [x, x] ∧ gd x = true ∧ ht x < n := fun xs h1 h2 d hd => by
      obtain ⟨i, hi⟩ := List.getElem?_of_mem hd
      obtain ⟨x, y, e1, e2, rfl⟩ := zipD_get hi
      rw [e1] at e2
      cases e2
      have hm := List.mem_of_getElem? e1
      exact ⟨x, rfl, gds_mem h1 x hm, Nat.lt_of_le_of_lt (hts_mem x hm) h2⟩
    have tr : ∀ xs : List PyData, (zipD xs xs).all (fun _ => true) = true := fun xs => by rw [List.all_eq_true]; exact fun _ _ => rfl
    cases d with
    | none => simpa [startE] using q
    | bool b => simpa [startE, PyData.eqv] using q
    | int i => simpa [startE] using q
    | str x =>
      simp [startE, okD_str]
      exact ⟨by simpa [gd] using hg, q⟩
    | list xs =>
      simp [startE, -List.all_eq_true]
      simp only [gd, Bool.and_eq_true, decide_eq_true_eq] at hg
      refine lc_map (zipD xs xs) 0 (fun R h => by simpa using h) (fun _ => .bool true) (by rw [zipD_len]; omega) (fun d hd n1 Q' h => ?_) (bools_of (by rw [all_map_id, tr]; exact q))
      obtain ⟨x, rfl, h1, h2⟩ := key xs hg.2 (by simp only [ht] at hn; omega) d hd
      simp [h1, h2]
      exact h
    | tuple xs =>
      simp [startE, -List.all_eq_true]
      simp only [gd, Bool.and_eq_true, decide_eq_true_eq] at hg
      refine lc_map (zipD xs xs) 0 (fun R h => by simpa using h) (fun _ => .bool true) (by rw [zipD_len]; omega) (fun d hd n1 Q' h => ?_) (bools_of (by rw [all_map_id, tr]; exact q))
      obtain ⟨x, rfl, h1, h2⟩ := key xs hg.2 (by simp only [ht] at hn; omega) d hd
      simp [h1, h2]
      exact h
    | dict es =>
      simp only [gd, Bool.and_eq_true, decide_eq_true_eq] at hg
      have k1 := gdk_items hg.2
      have k2 := htk_items (es := es)
      simp only [ht] at hn
      have h1 : gd (.list (es.map pairK)) = true := by simp [gd, k1.2, hg.1]
      have h2 : ht (.list (es.map pairK)) < n := by simp only [ht]; omega
      have k1' := k1.1
      simp [startE, -List.all_eq_true, h1, h2, k1']
      exact q
theorem d__law_copied (bi : ∀ x ∈ BI, mg x = none) (D : DefT K mg "_law_copied" s__law_copied ps__law_copied) : ∀ n, DefP P w K mg base n "_law_copied" 1 (S_copied n)
  | 0 => (D.none rfl).imp fun ds Q hl ⟨d, _, _, _, h, _⟩ => absurd h (Nat.not_lt_zero _)
  | n + 1 => by
    have D__law_copied := d__law_copied bi D n
    refine D.p N__law_copied sc__law_copied fun f cdv A outer s H E hr => ⟨_, _, jss_cons (js_if (jt_b (je_isi_dict bi (je_var 0))) (jss_one (js_ret (je_dcopy 0 3 [("key", 3)] sc__law_copied.nd bi rfl (show blkC N__law_copied (defScope s__law_copied) _ _ = true by decide +kernel) (fun _ _ _ _ _ => (jg_name (z := none) 3 sc__law_copied.nd rfl (by first | exact Or.inl rfl | exact Or.inr rfl)).pg) (fun _ _ _ _ _ => (je_tup (ja_cons (je_var 3) (ja_cons (je_f D__law_copied hr (ja_cons (je_ix (je_var 0) (je_var 3)) ja_nil)) ja_nil)) : JE none _ _ _ _).pe)))) (jss_nil))
      (jss_cons (js_asg (je_if (jt_b (je_isi_LT bi (je_var 0))) ((jl_lc [("one", 2)] sc__law_copied.nd (ji_seq (je_var 0)) (show blkC N__law_copied (defScope s__law_copied) _ _ = true by decide +kernel) (fun _ _ _ _ _ => jg_name 2 sc__law_copied.nd rfl (by first | exact Or.inl rfl | exact Or.inr rfl)) (fun _ _ _ _ _ => jts_nil) (fun _ _ _ _ _ => je_f D__law_copied hr (ja_cons (je_var 2) ja_nil))).je') (je_var 0)) (jg_name 1 sc__law_copied.nd rfl (by first | exact Or.inl rfl | exact Or.inr rfl)))
      (jss_one (js_ret (je_if (jt_b (je_isi_tuple bi (je_var 0))) (je_tupOf (by rfl) (bi _ (by decide)) (je_var 1)) (je_var 1))))), fun ds Q hl h => ?_⟩
    obtain ⟨d, rfl, hg, hd, hn, q⟩ := h
    cases d with
    | none => simpa [startE] using q
    | bool b => simpa [startE] using q
    | int i => simpa [startE] using q
    | str x => simpa [startE] using q
    | list xs =>
      simp only [gd, Bool.and_eq_true, decide_eq_true_eq] at hg
      simp only [nd] at hd
      simp only [ht] at hn
      simp [startE]
      refine lc_map xs 0 (fun R h => by simpa using h) (fun x => x) hg.1 (fun x hx n1 Q' h => ?_) (by simpa using q)
      have := hts_mem x hx
      simp [gds_mem hg.2 x hx, nds_mem hd x hx, show ht x < n by omega]
      exact h
    | tuple xs =>
      simp only [gd, Bool.and_eq_true, decide_eq_true_eq] at hg
      simp only [nd] at hd
      simp only [ht] at hn
      simp [startE]
      refine lc_map xs 0 (fun R h => by simpa using h) (fun x => x) hg.1 (fun x hx n1 Q' h => ?_) (by simpa using q)
      have := hts_mem x hx
      simp [gds_mem hg.2 x hx, nds_mem hd x hx, show ht x < n by omega]
      exact h
    | dict es =>
      simp only [nd, List.isEmpty_iff] at hd
      subst hd
      simpa [startE] using q
end
end MC
namespace MC
open PySem PySem.Spec PyProof.Rows L2 DD
open PySem.W (alike dataLt dataLe AllAlike Sortable EachIs)
open Evl (Ex)
abbrev s__law_loose : Stmt := top 21
abbrev N__law_loose : List Str := ["stream", "thing", "some", "part"]
abbrev ps__law_loose : List Str := ["stream", "thing"]
theorem sc__law_loose : FnScope N__law_loose ps__law_loose (defScope s__law_loose) := ⟨rfl, rfl, rfl, by decide +kernel, rfl, by decide +kernel, by decide +kernel⟩
abbrev s__law_said : Stmt := top 22
abbrev N__law_said : List Str := ["stream", "signs", "most", "k"]
abbrev ps__law_said : List Str := ["stream", "signs", "most"]
theorem sc__law_said : FnScope N__law_said ps__law_said (defScope s__law_said) := ⟨rfl, rfl, rfl, by decide +kernel, rfl, by decide +kernel, by decide +kernel⟩
abbrev s__law_unlike : Stmt := top 23
abbrev N__law_unlike : List Str := ["things", "found", "one"]
abbrev ps__law_unlike : List Str := ["things"]
theorem sc__law_unlike : FnScope N__law_unlike ps__law_unlike (defScope s__law_unlike) := ⟨rfl, rfl, rfl, by decide +kernel, rfl, by decide +kernel, by decide +kernel⟩
abbrev s__law_machine : Stmt := top 24
abbrev N__law_machine : List Str := ["stream", "stands", "letters", "signs", "moves", "starts", "rows", "k", "ends"]
abbrev ps__law_machine : List Str := ["stream", "stands", "letters", "signs", "moves"]
theorem sc__law_machine : FnScope N__law_machine ps__law_machine (defScope s__law_machine) := ⟨rfl, rfl, rfl, by decide +kernel, rfl, by decide +kernel, by decide +kernel⟩
/-! ### data within bounds -/
def leafD : PyData → Bool
  | .list _ => false
  | .tuple _ => false
  | .dict es => es.isEmpty
  | .str x => PyData.canLay0 (.str x)
  | _ => true
/-- of height at most h, all lists and tuples of at most l items, no dict but empty ones -/
def bx : Nat → Nat → PyData → Bool
  | 0, _, d => leafD d
  | h + 1, l, d => match seqD d with
    | some xs => decide (xs.length ≤ l) && xs.all (bx h l)
    | none => leafD d
theorem seqD_leaf {d : PyData} (h : leafD d = true) : seqD d = none := by cases d <;> first | rfl | cases h
theorem bx_leaf {d : PyData} (h : leafD d = true) : ∀ (n l : Nat), bx n l d = true
  | 0, _ => h
  | n + 1, l => by rw [bx, seqD_leaf h]; exact h
theorem bx_seq {n l : Nat} {d : PyData} {xs : List PyData} (h : bx (n + 1) l d = true) (e : seqD d = some xs) : xs.length ≤ l ∧ ∀ x ∈ xs, bx n l x = true := by
  rw [bx, e] at h
  simpa using h
theorem bx_of {n l : Nat} {d : PyData} {xs : List PyData} (e : seqD d = some xs) (h1 : xs.length ≤ l) (h2 : ∀ x ∈ xs, bx n l x = true) : bx (n + 1) l d = true := by
  rw [bx, e]
  simpa using ⟨h1, h2⟩
theorem bx_list {n l : Nat} {xs : List PyData} (h1 : xs.length ≤ l) (h2 : ∀ x ∈ xs, bx n l x = true) : bx (n + 1) l (.list xs) = true := bx_of rfl h1 h2
theorem bx_tuple {n l : Nat} {xs : List PyData} (h1 : xs.length ≤ l) (h2 : ∀ x ∈ xs, bx n l x = true) : bx (n + 1) l (.tuple xs) = true := bx_of rfl h1 h2
theorem bx_mono : ∀ {n m l k : Nat} {d : PyData}, n ≤ m → l ≤ k → bx n l d = true → bx m k d = true
  | 0, m, l, k, d, _, _, h => bx_leaf h m k
  | n + 1, 0, _, _, _, h, _, _ => absurd h (by omega)
  | n + 1, m + 1, l, k, d, h1, h2, h => by
    cases e : seqD d with
    | none => rw [bx, e] at h ⊢; exact h
    | some xs =>
      have := bx_seq h e
      exact bx_of e (by omega) fun x hx => bx_mono (by omega) h2 (this.2 x hx)
theorem lenOks_of {xs : List PyData} (h : ∀ d ∈ xs, lenOk d = true) : lenOks xs = true := by
  induction xs with
  | nil => rfl
  | cons x xs ih => rw [lenOks, h x (by simp), ih fun d hd => h d (by simp [hd])]; rfl
theorem bx_gd : ∀ {n l : Nat} {d : PyData}, l ≤ 100000 → bx n l d = true → gd d = true ∧ nd d = true ∧ ht d ≤ n + 3 ∧ lenOk d = true := by
  have leaf : ∀ (n : Nat) (d : PyData), leafD d = true → gd d = true ∧ nd d = true ∧ ht d ≤ n + 3 ∧ lenOk d = true := by
    intro n d h
    cases d with
    | list xs => cases h
    | tuple xs => cases h
    | dict es =>
      have : es = [] := by simpa [leafD] using h
      subst this
      exact ⟨rfl, rfl, by simp [ht, htk], rfl⟩
    | str x => exact ⟨h, rfl, by simp [ht], rfl⟩
    | _ => exact ⟨rfl, rfl, by simp [ht], rfl⟩
  intro n
  induction n with
  | zero => exact fun {l d} hl h => leaf 0 d h
  | succ n ih =>
    intro l d hl h
    cases e : seqD d with
    | none =>
      rw [bx, e] at h
      exact leaf _ d h
    | some xs =>
      have q := bx_seq h e
      have a := fun x hx => ih hl (q.2 x hx)
      have b1 := gds_of fun x hx => (a x hx).1
      have b2 := nds_of fun x hx => (a x hx).2.1
      have b3 := hts_of fun x hx => (a x hx).2.2.1
      have b4 := lenOks_of fun x hx => (a x hx).2.2.2
      have hl' : xs.length ≤ 100000 := by omega
      cases d <;> simp [seqD] at e <;> subst e <;> simp [gd, nd, ht, lenOk, b1, b2, b4, hl'] <;> omega
/-! ### typed data -/
def wrd (l : Nat) : PyData → Bool
  | .list xs => decide (xs.length ≤ l) && xs.all whole
  | _ => false
def pr (l : Nat) : PyData → Bool
  | .tuple [a, w] => whole a && wrd l w
  | _ => false
def mv (l : Nat) : PyData → Bool
  | .tuple [a, b, w, c] => whole a && whole b && wrd l w && whole c
  | _ => false
theorem whole_of {d : PyData} (h : whole d = true) : ∃ i, d = .int i := by cases d <;> first | exact ⟨_, rfl⟩ | cases h
theorem wrd_of {l : Nat} {d : PyData} (h : wrd l d = true) : ∃ ws : List Int, d = .list (ws.map PyData.int) ∧ ws.length ≤ l := by
  cases d with
  | list xs =>
    simp only [wrd, Bool.and_eq_true, decide_eq_true_eq, List.all_eq_true] at h
    have : ∃ ws : List Int, xs = ws.map PyData.int := by
      have h2 := h.2
      clear h
      induction xs with
      | nil => exact ⟨[], rfl⟩
      | cons x xs ih =>
        obtain ⟨ws, e⟩ := ih fun d hd => h2 d (by simp [hd])
        obtain ⟨i, rfl⟩ := whole_of (h2 x (by simp))
        exact ⟨i :: ws, by rw [e]; rfl⟩
    obtain ⟨ws, rfl⟩ := this
    exact ⟨ws, rfl, by simpa using h.1⟩
  | _ => cases h
theorem wrd_mk {l : Nat} {ws : List Int} (h : ws.length ≤ l) : wrd l (.list (ws.map PyData.int)) = true := by simp [wrd, h]
theorem pr_of {l : Nat} {d : PyData} (h : pr l d = true) : ∃ (i : Int) (ws : List Int), d = .tuple [.int i, .list (ws.map PyData.int)] ∧ ws.length ≤ l := by
  unfold pr at h
  split at h
  · rw [Bool.and_eq_true] at h
    obtain ⟨i, rfl⟩ := whole_of h.1
    obtain ⟨ws, rfl, hl⟩ := wrd_of h.2
    exact ⟨i, ws, rfl, hl⟩
  · cases h
theorem mv_of {l : Nat} {d : PyData} (h : mv l d = true) : ∃ (i j : Int) (ws : List Int) (k : Int), d = .tuple [.int i, .int j, .list (ws.map PyData.int), .int k] ∧ ws.length ≤ l := by
  unfold mv at h
  split at h
  · simp only [Bool.and_eq_true] at h
    obtain ⟨i, rfl⟩ := whole_of h.1.1.1
    obtain ⟨j, rfl⟩ := whole_of h.1.1.2
    obtain ⟨ws, rfl, hl⟩ := wrd_of h.1.2
    obtain ⟨k, rfl⟩ := whole_of h.2
    exact ⟨i, j, ws, k, rfl, hl⟩
  · cases h
theorem pr_mk {l : Nat} {i : Int} {w : PyData} (h : wrd l w = true) : pr l (.tuple [.int i, w]) = true := by simp [pr, h]
theorem mv_mk {l : Nat} {i j k : Int} {w : PyData} (h : wrd l w = true) : mv l (.tuple [.int i, .int j, w, .int k]) = true := by simp [mv, h]
theorem alike_pr {l : Nat} {d e : PyData} (h1 : pr l d = true) (h2 : pr l e = true) : alike d e = true := by
  obtain ⟨i, ws, rfl, _⟩ := pr_of h1
  obtain ⟨j, vs, rfl, _⟩ := pr_of h2
  simp [alike, PySem.W.alikeAll, alike_ints]
theorem alike_mv {l : Nat} {d e : PyData} (h1 : mv l d = true) (h2 : mv l e = true) : alike d e = true := by
  obtain ⟨i, j, ws, k, rfl, _⟩ := mv_of h1
  obtain ⟨i', j', vs, k', rfl, _⟩ := mv_of h2
  simp [alike, PySem.W.alikeAll, alike_ints]
theorem plain_ints (ws : List Int) : plains (ws.map PyData.int) = true := plains_all fun d hd => by
  obtain ⟨i, _, rfl⟩ := List.mem_map.mp hd
  rfl
theorem plain_wrd {l : Nat} {d : PyData} (h : wrd l d = true) : DD.plain d = true ∧ d.depth ≤ 1 := by
  obtain ⟨ws, rfl, _⟩ := wrd_of h
  have := depth_ints ws
  exact ⟨by simp [DD.plain, plain_ints], by simp only [PyData.depth]; omega⟩
theorem plain_pr {l : Nat} {d : PyData} (h : pr l d = true) : DD.plain d = true ∧ d.depth ≤ 2 := by
  obtain ⟨i, ws, rfl, _⟩ := pr_of h
  have := depth_ints ws
  exact ⟨by simp [DD.plain, plains, plain_ints], by simp only [PyData.depth, PyData.depthAll]; omega⟩
theorem plain_mv {l : Nat} {d : PyData} (h : mv l d = true) : DD.plain d = true ∧ d.depth ≤ 2 := by
  obtain ⟨i, j, ws, k, rfl, _⟩ := mv_of h
  have := depth_ints ws
  exact ⟨by simp [DD.plain, plains, plain_ints], by simp only [PyData.depth, PyData.depthAll]; omega⟩
theorem flatDs_plain {xs : List PyData} (h : ∀ d ∈ xs, DD.plain d = true) : flatDs xs = true := (plains_flat (plains_all h)).1
/-- rows that are alike, tuples -/
structure Rws (xs : List PyData) : Prop where
  pl : ∀ d ∈ xs, DD.plain d = true ∧ d.depth ≤ 2
  al : ∀ d ∈ xs, ∀ e ∈ xs, alike d e = true
  tp : ∀ d ∈ xs, ∃ x r, d = .tuple (x :: r)
theorem Rws.sort {xs : List PyData} (h : Rws xs) : OkSort xs := ⟨flatDs_plain fun d hd => (h.pl d hd).1, h.al, .inl h.tp, fun d hd => by have := (h.pl d hd).2; omega⟩
theorem rws_pr {l : Nat} {xs : List PyData} (h : ∀ d ∈ xs, pr l d = true) : Rws xs := ⟨fun d hd => plain_pr (h d hd), fun d hd e he => alike_pr (h d hd) (h e he), fun d hd => by
  obtain ⟨i, ws, rfl, _⟩ := pr_of (h d hd)
  exact ⟨_, _, rfl⟩⟩
theorem rws_mv {l : Nat} {xs : List PyData} (h : ∀ d ∈ xs, mv l d = true) : Rws xs := ⟨fun d hd => plain_mv (h d hd), fun d hd e he => alike_mv (h d hd) (h e he), fun d hd => by
  obtain ⟨i, j, ws, k, rfl, _⟩ := mv_of (h d hd)
  exact ⟨_, _, rfl⟩⟩
theorem wrd_bx {l : Nat} {d : PyData} (h : wrd l d = true) : bx 1 l d = true := by
  obtain ⟨ws, rfl, hl⟩ := wrd_of h
  exact bx_list (by simpa using hl) fun x hx => by
    obtain ⟨i, _, rfl⟩ := List.mem_map.mp hx
    rfl
theorem pr_bx {l k : Nat} {d : PyData} (h : pr l d = true) (hl : l ≤ k) (hk : 2 ≤ k) : bx 2 k d = true := by
  obtain ⟨i, ws, rfl, hw⟩ := pr_of h
  exact bx_tuple (by simpa using hk) fun x hx => by
    have hx : x = .int i ∨ x = .list (ws.map PyData.int) := by simpa using hx
    rcases hx with rfl | rfl
    · rfl
    · exact bx_mono (Nat.le_refl _) hl (wrd_bx (wrd_mk hw))
theorem mv_bx {l k : Nat} {d : PyData} (h : mv l d = true) (hl : l ≤ k) (hk : 4 ≤ k) : bx 2 k d = true := by
  obtain ⟨i, j, ws, m, rfl, hw⟩ := mv_of h
  exact bx_tuple (by simpa using hk) fun x hx => by
    have hx : x = .int i ∨ x = .int j ∨ x = .list (ws.map PyData.int) ∨ x = .int m := by simpa using hx
    rcases hx with rfl | rfl | rfl | rfl
    · rfl
    · rfl
    · exact bx_mono (Nat.le_refl _) hl (wrd_bx (wrd_mk hw))
    · rfl
/-- a machine of the law's own: words of at most l signs, at most k rows of each kind -/
structure IsM (l k : Nat) (d : PyData) : Prop where
  ex : ∃ (a b c : Int) (ss ms es : List PyData), d = .tuple [.int a, .int b, .int c, .list ss, .list ms, .list es] ∧ 1 ≤ a ∧ a ≤ (k : Int) ∧ ss.length ≤ k ∧ ms.length ≤ k ∧ es.length ≤ k ∧ (∀ x ∈ ss, pr l x = true) ∧ (∀ x ∈ ms, mv l x = true) ∧ (∀ x ∈ es, pr l x = true)
theorem IsM.bx {l k : Nat} {d : PyData} (h : IsM l k d) (hk : 6 ≤ k) (hl : l ≤ k) : bx 4 k d = true := by
  obtain ⟨a, b, c, ss, ms, es, rfl, _, _, h1, h2, h3, h4, h5, h6⟩ := h.ex
  exact bx_tuple (by simpa using hk) fun x hx => by
    have hx : x = .int a ∨ x = .int b ∨ x = .int c ∨ x = .list ss ∨ x = .list ms ∨ x = .list es := by simpa using hx
    rcases hx with rfl | rfl | rfl | rfl | rfl | rfl
    · rfl
    · rfl
    · rfl
    · exact bx_list h1 fun x hx => pr_bx (h4 x hx) hl (by omega)
    · exact bx_list h2 fun x hx => mv_bx (h5 x hx) hl (by omega)
    · exact bx_list h3 fun x hx => pr_bx (h6 x hx) hl (by omega)
/-! ### the promises -/
def S_said : ZSp := fun ds n Q => ∃ (m : Int) (t : Nat), ds = [.int m, .int t] ∧ 1 ≤ m ∧ m < 1073741824 ∧ t ≤ 1000 ∧ n < 1099511000000 ∧ ∀ w n', wrd t w = true → n' ≤ n + 1003 → Q w n'
theorem S_said_at (m : Int) (t : Nat) (n : Nat) (Q : PyData → Nat → Prop) : S_said [.int m, .int t] n Q ↔ (1 ≤ m ∧ m < 1073741824 ∧ t ≤ 1000 ∧ n < 1099511000000 ∧ ∀ w n', wrd t w = true → n' ≤ n + 1003 → Q w n') := ⟨fun ⟨_, _, h, q⟩ => by
  simp only [List.cons.injEq, PyData.int.injEq, and_true] at h
  obtain ⟨rfl, h⟩ := h
  have := Int.ofNat.inj h
  subst this
  exact q, fun q => ⟨_, _, rfl, q⟩⟩
@[simp] theorem S_said_1 (m : Int) (n : Nat) (Q : PyData → Nat → Prop) : S_said [.int m, .int 1] n Q ↔ (1 ≤ m ∧ m < 1073741824 ∧ n < 1099511000000 ∧ ∀ w n', wrd 1 w = true → n' ≤ n + 1003 → Q w n') := (S_said_at m 1 n Q).trans (by simp)
@[simp] theorem S_said_2 (m : Int) (n : Nat) (Q : PyData → Nat → Prop) : S_said [.int m, .int 2] n Q ↔ (1 ≤ m ∧ m < 1073741824 ∧ n < 1099511000000 ∧ ∀ w n', wrd 2 w = true → n' ≤ n + 1003 → Q w n') := (S_said_at m 2 n Q).trans (by simp)
def S_unlike : PSp := fun ds Q => ∃ xs, ds = [.list xs] ∧ xs.length ≤ 100000 ∧ Rws xs ∧ ∀ ys : List PyData, ys.length ≤ xs.length → (∀ y ∈ ys, y ∈ xs) → Q (.list ys)
@[simp] theorem S_unlike_at (xs : List PyData) (Q : PyData → Prop) : S_unlike [.list xs] Q ↔ (xs.length ≤ 100000 ∧ Rws xs ∧ ∀ ys : List PyData, ys.length ≤ xs.length → (∀ y ∈ ys, y ∈ xs) → Q (.list ys)) := ⟨fun ⟨_, h, q⟩ => by cases h; exact q, fun q => ⟨_, rfl, q⟩⟩
def S_machine : ZSp := fun ds n Q => ∃ (a b c m : Int), ds = [.int a, .int b, .int c, .int m] ∧ 1 ≤ a ∧ a ≤ 100 ∧ 1 ≤ b ∧ b ≤ 1000 ∧ 1 ≤ c ∧ c ≤ 1000 ∧ 0 ≤ m ∧ m ≤ 100 ∧ n < 1099500000000 ∧ ∀ d n', IsM 2 100 d → n' ≤ n + 200000 → Q d n'
@[simp] theorem S_machine_at (a b c m : Int) (n : Nat) (Q : PyData → Nat → Prop) : S_machine [.int a, .int b, .int c, .int m] n Q ↔ (1 ≤ a ∧ a ≤ 100 ∧ 1 ≤ b ∧ b ≤ 1000 ∧ 1 ≤ c ∧ c ≤ 1000 ∧ 0 ≤ m ∧ m ≤ 100 ∧ n < 1099500000000 ∧ ∀ d n', IsM 2 100 d → n' ≤ n + 200000 → Q d n') := ⟨fun ⟨_, _, _, _, h, q⟩ => by cases h; exact q, fun q => ⟨_, _, _, _, rfl, q⟩⟩
section
variable {P : Program} {w : World} {K : PySem.W.Frag} {mg : Str → Option Value} {base : Heap}
theorem d__law_said (bi : ∀ x ∈ BI, mg x = none) (D : DefT K mg "_law_said" s__law_said ps__law_said) (D__law_draw : DefZ P w K mg base 1 "_law_draw" 1 S_draw) (D__law_pick : DefZ P w K mg base 2 "_law_pick" 1 S_pick) :
    DefZ P w K mg base 3 "_law_said" 2 S_said := by
  refine D.z N__law_said sc__law_said rfl fun f z cdv A outer s H E hr => ⟨_, _, jss_one (js_ret ((jl_sl ((jl_lc [("k", 3)] sc__law_said.nd (ji_range1 (by rfl) (bi _ (by decide)) (je_z 0 D__law_pick hr (ja_cons ((jl_lst (ja_cons je_int (ja_cons je_int (ja_cons je_int (ja_cons je_int (ja_cons je_int (ja_cons (je_var 2) ja_nil))))))).je') ja_nil))) (show blkC N__law_said (defScope s__law_said) _ _ = true by decide +kernel) (fun _ _ _ _ _ => jg_name 3 sc__law_said.nd rfl (by first | exact Or.inl rfl | exact Or.inr rfl)) (fun _ _ _ _ _ => jts_nil) (fun _ _ _ _ _ => je_z 0 D__law_draw hr (ja_cons (je_var 1) ja_nil))).je') jo_none (jo_some (je_var 2))).je')), fun ds n Q hl h => ?_⟩
  obtain ⟨m, t, rfl, m1, m2, ht, hn, q⟩ := h
  simp [startZ, wLc_def]
  have go : ∀ j : Nat, j ≤ 1002 → LcIn (wgN 3) wYes (wCallZ 0 1 S_draw (wCons (wVar 1) wNil)) [3] ⟨[S.stm, S.val (PyData.int m), S.val (PyData.int t), S.no], n⟩ (fun ds n => Q (PyData.list (DD.cutD ds none (some t))) n) (rgD 0 j) (n + 1) := fun j hj => by
    refine lci_pred (fun d => whole d = true) 1 (by simp; omega) (fun k d n1 Q' hk hd hn1 hQ => ?_) fun rs n' hrs hp hn' => ?_
    · simp at hk
      simp [m1, m2]
      exact ⟨by omega, fun x _ _ => hQ _ _ rfl (by omega)⟩
    · simp at hn'
      rw [cutD_upto]
      exact q _ _ (by simp [wrd, Nat.min_le_left]; exact fun x hx => hp x (List.mem_of_mem_take hx)) (by omega)
  exact ⟨by omega, go 0 (by omega), go 1 (by omega), go 2 (by omega), by omega, go t (by omega)⟩
theorem d__law_unlike (bi : ∀ x ∈ BI, mg x = none) (D : DefT K mg "_law_unlike" s__law_unlike ps__law_unlike) :
    DefP P w K mg base 1 "_law_unlike" 1 S_unlike := by
  refine D.p N__law_unlike sc__law_unlike fun f cdv A outer s H E hr => ⟨_, _, jss_cons (js_asgL 1 sc__law_unlike.nd rfl (by first | exact Or.inl rfl | exact Or.inr rfl) (jl_lst ja_nil))
      (jss_cons (js_for PassesOwn.never (ji_seq ((jl_sorted hr bi (je_var 0)).je')) (jg_name 2 sc__law_unlike.nd rfl (by first | exact Or.inl rfl | exact Or.inr rfl)) (jss_one (js_if (jt_bor 1 ((jw_or (jc_t (c_eq hr) (je_var 1) ((jl_lst ja_nil).je')) (jw_or1 (jc_t (c_ne hr) (je_ix (je_var 1) (je_neg je_int)) (je_var 2)))).jt)) (jss_one (js_app 1 (je_var 2))) (jss_nil))))
      (jss_frz 1 (jss_one (js_ret (je_var 1))))), fun ds Q hl h => ?_⟩
  obtain ⟨xs, rfl, h1, h2, q⟩ := h
  simp [startE]
  have hm : ∀ y ∈ xs.mergeSort (dataLe false id), y ∈ xs := fun y hy => List.mem_mergeSort.mp hy
  have hlen : (xs.mergeSort (dataLe false id)).length = xs.length := List.length_mergeSort _
  refine for_inv (xs.mergeSort (dataLe false id)) 0 (fun R h => by simpa using ⟨h2.sort, h⟩) (fun k en' => ∃ ys z n', en' = ⟨[S.val (PyData.list xs), S.own ys, z], n'⟩ ∧ ys.length ≤ k ∧ ∀ y ∈ ys, y ∈ xs) ⟨[], _, _, rfl, by simp, by simp⟩ (fun k d en' hk ⟨ys, z, n', he, h3, h4⟩ => ?_) fun en' ⟨ys, z, n', he, h3, h4⟩ => ?_
  · have hd : d ∈ xs := hm d (List.mem_of_getElem? hk)
    have hkl := (List.getElem?_eq_some_iff.mp hk).1
    have ok : ∀ y ∈ xs, okD y = true := fun y hy => okD_plain (h2.pl y hy).1 (by have := (h2.pl y hy).2; omega)
    have okl : okD (.list ys) = true := okD_list (n := 2) (fun y hy => h2.pl y (h4 y hy)) (by decide)
    have okn : okD (.list []) = true := rfl
    subst he
    have nx : ∀ y, y ∈ ys ∨ y = d → y ∈ xs := fun y hy => hy.elim (h4 y) fun e => e ▸ hd
    simp [okl, okn]
    cases ys with
    | nil => simp [PyData.eqv, PyData.eqvAll]; exact hd
    | cons y ys' =>
      have ne : (PyData.list (y :: ys')).eqv (PyData.list []) = false := by simp [PyData.eqv, PyData.eqvAll]
      rw [ne, if_neg Bool.false_ne_true]
      refine ⟨_, List.getLast?_eq_some_getLast (by simp), ok _ (h4 _ (List.getLast_mem _)), ok _ hd, ?_⟩
      cases PyData.eqv ((y :: ys').getLast (by simp)) d with
      | true => exact .inl ⟨rfl, by omega, h4⟩
      | false => exact .inr ⟨rfl, by omega, h3, nx⟩
  · subst he
    simpa using q ys (by omega) h4
theorem d__law_machine (bi : ∀ x ∈ BI, mg x = none) (D : DefT K mg "_law_machine" s__law_machine ps__law_machine) (D__law_draw : DefZ P w K mg base 1 "_law_draw" 1 S_draw) (D__law_said : DefZ P w K mg base 3 "_law_said" 2 S_said) (D__law_unlike : DefP P w K mg base 1 "_law_unlike" 1 S_unlike) :
    DefZ P w K mg base 4 "_law_machine" 4 S_machine := by
  refine D.z N__law_machine sc__law_machine rfl fun f z cdv A outer s H E hr => ⟨_, _, jss_cons (js_asg (je_f D__law_unlike hr (ja_cons ((jl_lc [("k", 7)] sc__law_machine.nd (ji_range1 (by rfl) (bi _ (by decide)) (je_add je_int (je_z 0 D__law_draw hr (ja_cons je_int ja_nil)))) (show blkC N__law_machine (defScope s__law_machine) _ _ = true by decide +kernel) (fun _ _ _ _ _ => jg_name 7 sc__law_machine.nd rfl (by first | exact Or.inl rfl | exact Or.inr rfl)) (fun _ _ _ _ _ => jts_nil) (fun _ _ _ _ _ => je_tup (ja_cons (je_z 0 D__law_draw hr (ja_cons (je_var 1) ja_nil)) (ja_cons (je_z 0 D__law_said hr (ja_cons (je_var 3) (ja_cons je_int ja_nil))) ja_nil)))).je') ja_nil)) (jg_name 5 sc__law_machine.nd rfl (by first | exact Or.inl rfl | exact Or.inr rfl)))
      (jss_cons (js_asgL 6 sc__law_machine.nd rfl (by first | exact Or.inl rfl | exact Or.inr rfl) (jl_lst ja_nil))
      (jss_cons (js_for PassesOwn.never (ji_range1 (by rfl) (bi _ (by decide)) (je_var 4)) (jg_name 7 sc__law_machine.nd rfl (by first | exact Or.inl rfl | exact Or.inr rfl)) (jss_one (js_app 6 (je_tup (ja_cons (je_z 0 D__law_draw hr (ja_cons (je_var 1) ja_nil)) (ja_cons (je_z 0 D__law_draw hr (ja_cons (je_var 2) ja_nil)) (ja_cons (je_z 0 D__law_said hr (ja_cons (je_var 3) (ja_cons je_int ja_nil))) (ja_cons (je_z 0 D__law_draw hr (ja_cons (je_var 1) ja_nil)) ja_nil))))))))
      (jss_cons (js_asg (je_f D__law_unlike hr (ja_cons ((jl_lc [("k", 7)] sc__law_machine.nd (ji_range1 (by rfl) (bi _ (by decide)) (je_add je_int (je_z 0 D__law_draw hr (ja_cons je_int ja_nil)))) (show blkC N__law_machine (defScope s__law_machine) _ _ = true by decide +kernel) (fun _ _ _ _ _ => jg_name 7 sc__law_machine.nd rfl (by first | exact Or.inl rfl | exact Or.inr rfl)) (fun _ _ _ _ _ => jts_nil) (fun _ _ _ _ _ => je_tup (ja_cons (je_z 0 D__law_draw hr (ja_cons (je_var 1) ja_nil)) (ja_cons (je_z 0 D__law_said hr (ja_cons (je_var 3) (ja_cons je_int ja_nil))) ja_nil)))).je') ja_nil)) (jg_name 8 sc__law_machine.nd rfl (by first | exact Or.inl rfl | exact Or.inr rfl)))
      (jss_frz 6 (jss_one (js_ret (je_tup (ja_cons (je_var 1) (ja_cons (je_var 2) (ja_cons (je_var 3) (ja_cons (je_var 5) (ja_cons (je_f D__law_unlike hr (ja_cons (je_var 6) ja_nil)) (ja_cons (je_var 8) ja_nil))))))))))))), fun ds n Q hl h => ?_⟩
  obtain ⟨a, b, c, m, rfl, a1, a2, b1, b2, c1, c2, hm0, hm, hn, q⟩ := h
  simp [startZ, wLc_def, wFor_def]
  refine ⟨by omega, fun x x0 x1 => ⟨by omega, by omega, ?_⟩⟩
  refine lci_pred (fun d => pr 2 d = true) 1100 (by simp; omega) (fun k d n1 Q' hk hd hn1 hQ => ?_) fun ss n2 hs1 hs2 hn2 => ?_
  · simp at hk
    simp [a1, c1]
    refine ⟨by omega, by omega, fun y _ _ => ⟨by omega, by omega, fun wd n3 h1 h2 => hQ _ _ (pr_mk h1) (by omega)⟩⟩
  simp at hs1 hn2
  refine ⟨by omega, rws_pr hs2, fun ys hy1 hy2 => ⟨by omega, by omega, ?_⟩⟩
  refine ⟨fun k en' => ∃ rs v7 n', en' = ⟨[S.stm, S.val (PyData.int a), S.val (PyData.int b), S.val (PyData.int c), S.val (PyData.int m), S.val (PyData.list ys), S.own rs, v7, S.no], n'⟩ ∧ rs.length ≤ k ∧ (∀ r ∈ rs, mv 2 r = true) ∧ k ≤ m.toNat ∧ n' ≤ n2 + k * 1100, ⟨[], _, _, rfl, by simp, by simp, by omega, by omega⟩, ?_, ?_⟩
  · rintro k d en' hk ⟨rs, v7, n', rfl, h1, h2, h3, h4⟩
    have hk := (List.getElem?_eq_some_iff.mp hk).1
    simp at hk
    simp [a1, b1, c1]
    refine ⟨by omega, by omega, fun y _ _ => ⟨by omega, by omega, fun y2 _ _ => ⟨by omega, by omega, fun wd n3 w1 w2 => ⟨by omega, by omega, fun y3 _ _ => ⟨by omega, _, _, _, ⟨⟨rfl, rfl⟩, rfl⟩, by simp; omega, ?_, by omega, by omega⟩⟩⟩⟩⟩
    simp only [List.mem_append, List.mem_singleton]
    rintro r (hr | rfl)
    · exact h2 r hr
    · exact mv_mk w1
  · rintro en' ⟨rs, v7, n', rfl, h1, h2, h3, h4⟩
    simp at h1 h4
    simp
    refine ⟨by omega, fun x x0 x1 => ⟨by omega, by omega, ?_⟩⟩
    refine lci_pred (fun d => pr 2 d = true) 1100 (by simp; omega) (fun k d n1 Q' hk hd hn1 hQ => ?_) fun es n3 he1 he2 hn3 => ?_
    · simp at hk
      simp [a1, c1]
      refine ⟨by omega, by omega, fun y _ _ => ⟨by omega, by omega, fun wd n3 h1 h2 => hQ _ _ (pr_mk ?_) (by omega)⟩⟩
      obtain ⟨vs, rfl, hv⟩ := wrd_of h1
      exact wrd_mk (by omega)
    · simp at he1 hn3
      refine ⟨by omega, rws_pr he2, fun zs hz1 hz2 => ?_⟩
      refine ⟨by omega, rws_mv h2, fun us hu1 hu2 => q _ _ ⟨a, b, c, ys, us, zs, rfl, a1, by omega, by omega, by omega, by omega, fun x hx => hs2 x (hy2 x hx), fun x hx => h2 x (hu2 x hx), fun x hx => he2 x (hz2 x hx)⟩ (by omega)⟩
end
end MC
namespace MC
open PySem PySem.Spec PyProof.Rows L2 DD
open PySem.W (alike dataLt dataLe AllAlike Sortable EachIs)
/-! ### told: lists as tuples -/
mutual
def told : PyData → PyData
  | .list xs => .tuple (tolds xs)
  | .tuple xs => .tuple (tolds xs)
  | .none => .none
  | .bool b => .bool b
  | .int i => .int i
  | .str x => .str x
  | .dict es => .dict es
def tolds : List PyData → List PyData
  | [] => []
  | x :: xs => told x :: tolds xs
end
theorem tolds_map : ∀ xs : List PyData, tolds xs = xs.map told
  | [] => rfl
  | x :: xs => by rw [tolds, tolds_map xs]; rfl
theorem told_seq {d : PyData} {xs : List PyData} (h : seqD d = some xs) : told d = .tuple (xs.map told) := by
  cases d <;> simp [seqD] at h <;> subst h <;> simp [told, tolds_map]
theorem told_no {d : PyData} (h : seqD d = none) : told d = d := by cases d <;> first | rfl | (simp [seqD] at h)
mutual
def tame : PyData → Bool
  | .list xs => tames xs
  | .tuple xs => tames xs
  | .dict es => es.isEmpty
  | .str x => PyData.canLay0 (.str x)
  | .none => true
  | .bool _ => true
  | .int _ => true
def tames : List PyData → Bool
  | [] => true
  | x :: xs => tame x && tames xs
end
mutual
def sz : PyData → Nat
  | .list xs => szs xs + 1
  | .tuple xs => szs xs + 1
  | .none => 1
  | .bool _ => 1
  | .int _ => 1
  | .str _ => 1
  | .dict _ => 1
def szs : List PyData → Nat
  | [] => 0
  | x :: xs => sz x + szs xs
end
theorem tames_all : ∀ xs : List PyData, tames xs = xs.all tame
  | [] => rfl
  | x :: xs => by rw [tames, tames_all xs]; rfl
theorem tame_seq {d : PyData} {xs : List PyData} (h : seqD d = some xs) : tame d = xs.all tame := by
  cases d <;> simp [seqD] at h <;> subst h <;> simp only [tame, tames_all]
theorem sz_seq {d : PyData} {xs : List PyData} (h : seqD d = some xs) : sz d = szs xs + 1 := by
  cases d <;> simp [seqD] at h <;> subst h <;> rfl
theorem ht_seq {d : PyData} {xs : List PyData} (h : seqD d = some xs) : ht d = hts xs + 1 := by
  cases d <;> simp [seqD] at h <;> subst h <;> rfl
theorem sz_pos (d : PyData) : 1 ≤ sz d := by cases d <;> simp [sz]
theorem szs_len : ∀ xs : List PyData, xs.length ≤ szs xs
  | [] => by simp [szs]
  | x :: xs => by
    have := szs_len xs
    have := sz_pos x
    rw [szs, List.length_cons]; omega
theorem szs_mem {xs : List PyData} : ∀ d ∈ xs, sz d ≤ szs xs := by
  induction xs with
  | nil => intro d hd; cases hd
  | cons x xs ih =>
    intro d hd
    rw [szs]
    rcases List.mem_cons.mp hd with e | hd
    · rw [e]; omega
    · have := ih d hd; omega
theorem szs_app : ∀ xs ys : List PyData, szs (xs ++ ys) = szs xs + szs ys
  | [], ys => by simp [szs]
  | x :: xs, ys => by rw [List.cons_append, szs, szs, szs_app xs ys]; omega
/-- data that may be copied, compared, looked at -/
theorem tame_gd : ∀ (n : Nat) (d : PyData), ht d ≤ n → tame d = true → sz d ≤ 100000 → gd d = true ∧ nd d = true ∧ lenOk d = true := by
  intro n
  induction n with
  | zero =>
    intro d h t s
    cases d with
    | list xs => simp [ht] at h
    | tuple xs => simp [ht] at h
    | dict es => simp [ht] at h
    | str x => exact ⟨t, rfl, rfl⟩
    | _ => exact ⟨rfl, rfl, rfl⟩
  | succ n ih =>
    intro d h t s
    cases e : seqD d with
    | none =>
      cases d with
      | list xs => cases e
      | tuple xs => cases e
      | dict es =>
        have : es = [] := by simpa [tame] using t
        subst this
        exact ⟨rfl, rfl, rfl⟩
      | str x => exact ⟨t, rfl, rfl⟩
      | _ => exact ⟨rfl, rfl, rfl⟩
    | some xs =>
      have h1 := ht_seq e
      have h2 := sz_seq e
      have h3 := szs_len xs
      rw [tame_seq e, List.all_eq_true] at t
      have a := fun x hx => ih x (by have := hts_mem (xs := xs) x hx; omega) (t x hx) (by have := szs_mem (xs := xs) x hx; omega)
      have b1 := gds_of fun x hx => (a x hx).1
      have b2 := nds_of fun x hx => (a x hx).2.1
      have b4 := lenOks_of fun x hx => (a x hx).2.2
      have hl' : xs.length ≤ 100000 := by omega
      cases d <;> simp [seqD] at e <;> subst e <;> simp [gd, nd, lenOk, b1, b2, b4, hl']
/-! ### the law's look -/
def isW (m d : PyData) : Bool := match seqD d with
  | some xs => xs.all (numOk m)
  | none => false
def okPair (st sg : Int) (x : PyData) : Bool := match seqD x with
  | some [a, b] => below st a && isW (.int sg) b
  | _ => false
def okMove (st le sg : Int) (x : PyData) : Bool := match seqD x with
  | some [a, b, c, e] => below st a && below le b && isW (.int sg) c && below st e
  | _ => false
def isPairs (st sg : Int) (d : PyData) : Bool := match seqD d with
  | some xs => xs.all (okPair st sg) && ascD (xs.map told)
  | none => false
def isMoves (st le sg : Int) (d : PyData) : Bool := match seqD d with
  | some xs => xs.all (okMove st le sg) && ascD (xs.map told)
  | none => false
def lookM (d : PyData) : Bool := match seqD d with
  | some [a, b, c, s, m, e] => (posI a && posI b && posI c) && (isPairs (intOf a) (intOf c) s && isMoves (intOf a) (intOf b) (intOf c) m && isPairs (intOf a) (intOf c) e)
  | _ => false
theorem numOk_int {m d : PyData} (h : numOk m d = true) : ∃ i, d = .int i := by
  unfold numOk at h
  cases d with
  | int i => exact ⟨i, rfl⟩
  | _ => cases m <;> simp at h
theorem told_nums {m : PyData} {xs : List PyData} (h : xs.all (numOk m) = true) : xs.map told = xs := by
  induction xs with
  | nil => rfl
  | cons x xs ih =>
    rw [List.all_cons, Bool.and_eq_true] at h
    obtain ⟨i, rfl⟩ := numOk_int h.1
    rw [List.map_cons, ih h.2]
    rfl
theorem kW_none (m d : PyData) : noneD (keptW m d) = !isW m d := by
  unfold keptW isW
  cases seqD d with
  | none => rfl
  | some xs =>
    show noneD (if xs.all (numOk m) = true then PyData.tuple xs else .none) = !xs.all (numOk m)
    cases xs.all (numOk m) <;> rfl
theorem kW_told {m d : PyData} (h : isW m d = true) : keptW m d = told d := by
  unfold isW at h
  unfold keptW
  cases e : seqD d with
  | none => rw [e] at h; cases h
  | some xs =>
    rw [e] at h
    have h : xs.all (numOk m) = true := h
    show (if xs.all (numOk m) = true then PyData.tuple xs else .none) = _
    rw [if_pos h, told_seq e, told_nums h]
theorem kP_none (st sg : Int) (x : PyData) : noneD (keptP st sg x) = !okPair st sg x := by
  unfold keptP okPair
  split
  · rename_i a b e
    first | rw [kW_none, Bool.not_not, e] | rw [kW_none, Bool.not_not]
    show noneD (if (below st a && isW (.int sg) b) = true then _ else _) = !(below st a && isW (.int sg) b)
    cases below st a && isW (.int sg) b <;> rfl
  · rename_i h
    first
      | rfl
      | (split
         · rename_i a b e; exact absurd e (h a b)
         · rfl)
theorem kP_told {st sg : Int} {x : PyData} (h : okPair st sg x = true) : keptP st sg x = told x := by
  unfold okPair at h
  split at h
  · rename_i a b e
    rw [Bool.and_eq_true] at h
    unfold keptP
    rw [e]
    simp only [kW_none, Bool.not_not, h.1, h.2, Bool.and_self, if_true]
    obtain ⟨i, rfl⟩ := below_int h.1
    rw [told_seq e, kW_told h.2]
    rfl
  · cases h
theorem kV_none (st le sg : Int) (x : PyData) : noneD (keptV st le sg x) = !okMove st le sg x := by
  unfold keptV okMove
  split
  · rename_i a b c d e
    first | rw [kW_none, Bool.not_not, e] | rw [kW_none, Bool.not_not]
    show noneD (if (below st a && below le b && isW (.int sg) c && below st d) = true then _ else _) = !(below st a && below le b && isW (.int sg) c && below st d)
    cases below st a && below le b && isW (.int sg) c && below st d <;> rfl
  · rename_i h
    first
      | rfl
      | (split
         · rename_i a b c d e; exact absurd e (h a b c d)
         · rfl)
theorem kV_told {st le sg : Int} {x : PyData} (h : okMove st le sg x = true) : keptV st le sg x = told x := by
  unfold okMove at h
  split at h
  · rename_i a b c d e
    simp only [Bool.and_eq_true] at h
    unfold keptV
    rw [e]
    simp only [kW_none, Bool.not_not, h.1.1.1, h.1.1.2, h.1.2, h.2, Bool.and_self, if_true]
    obtain ⟨i, rfl⟩ := below_int h.1.1.1
    obtain ⟨j, rfl⟩ := below_int h.1.1.2
    obtain ⟨k, rfl⟩ := below_int h.2
    rw [told_seq e, kW_told h.1.2]
    rfl
  · cases h
theorem kA_none {f : PyData → PyData} {ok : PyData → Bool} (h1 : ∀ x, noneD (f x) = !ok x) (h2 : ∀ x, ok x = true → f x = told x) (xs : List PyData) : noneD (keptA (xs.map f)) = !(xs.all ok && ascD (xs.map told)) := by
  have e : (xs.map f).any noneD = !xs.all ok := by
    induction xs with
    | nil => rfl
    | cons x xs ih => rw [List.map_cons, List.any_cons, ih, h1, List.all_cons]; cases ok x <;> rfl
  unfold keptA
  rw [e]
  cases ha : xs.all ok with
  | false => rfl
  | true =>
    have : xs.map f = xs.map told := List.map_congr_left fun x hx => h2 x (List.all_eq_true.mp ha x hx)
    rw [this]
    cases ascD (xs.map told) <;> rfl
theorem asc_pairs {st sg : Int} {xs : List PyData} (h : xs.all (okPair st sg) = true) : AscOk (xs.map told) := by
  have : xs.map (keptP st sg) = xs.map told := List.map_congr_left fun x hx => kP_told (List.all_eq_true.mp h x hx)
  rw [← this]
  refine (rows_P st sg xs).asc fun x hx => ?_
  obtain ⟨y, hy, rfl⟩ := List.mem_map.mp hx
  rw [kP_none, List.all_eq_true.mp h y hy]; rfl
theorem asc_moves {st le sg : Int} {xs : List PyData} (h : xs.all (okMove st le sg) = true) : AscOk (xs.map told) := by
  have : xs.map (keptV st le sg) = xs.map told := List.map_congr_left fun x hx => kV_told (List.all_eq_true.mp h x hx)
  rw [← this]
  refine (rows_V st le sg xs).asc fun x hx => ?_
  obtain ⟨y, hy, rfl⟩ := List.mem_map.mp hx
  rw [kV_none, List.all_eq_true.mp h y hy]; rfl
theorem look_kept (d : PyData) : (!noneD (keptM d)) = lookM d := by
  unfold keptM lookM
  split
  · rename_i a b c s m e q
    try rw [q]
    unfold keptM6
    show (!noneD (if ((posI a && posI b && posI c) && (isSeq s && isSeq m && isSeq e)) = true then _ else _)) = ((posI a && posI b && posI c) && (isPairs (intOf a) (intOf c) s && isMoves (intOf a) (intOf b) (intOf c) m && isPairs (intOf a) (intOf c) e))
    cases hp : (posI a && posI b && posI c) with
    | false => rfl
    | true =>
      rw [Bool.true_and, Bool.true_and]
      cases es : seqD s with
      | none =>
        have : isSeq s = false := isSeq_no es
        simp [this, isPairs, es]
      | some xs =>
        cases em : seqD m with
        | none =>
          have : isSeq m = false := isSeq_no em
          simp [this, isMoves, em]
        | some ys =>
          cases ee : seqD e with
          | none =>
            have : isSeq e = false := isSeq_no ee
            simp [this, isPairs, ee]
          | some zs =>
            have i1 : isSeq s = true := isSeq_of es
            have i2 : isSeq m = true := isSeq_of em
            have i3 : isSeq e = true := isSeq_of ee
            have h1 : isPairs (intOf a) (intOf c) s = (xs.all (okPair (intOf a) (intOf c)) && ascD (xs.map told)) := by unfold isPairs; rw [es]
            have h2 : isMoves (intOf a) (intOf b) (intOf c) m = (ys.all (okMove (intOf a) (intOf b) (intOf c)) && ascD (ys.map told)) := by unfold isMoves; rw [em]
            have h3 : isPairs (intOf a) (intOf c) e = (zs.all (okPair (intOf a) (intOf c)) && ascD (zs.map told)) := by unfold isPairs; rw [ee]
            rw [h1, h2, h3, i1, i2, i3]
            simp only [Bool.and_self, if_true, itemsOf, es, em, ee, Option.getD_some]
            unfold mkM
            rw [kA_none (kP_none _ _) (fun x hx => kP_told hx), kA_none (kV_none _ _ _) (fun x hx => kV_told hx), kA_none (kP_none _ _) (fun x hx => kP_told hx)]
            cases (xs.all (okPair (intOf a) (intOf c)) && ascD (xs.map told)) <;> cases (ys.all (okMove (intOf a) (intOf b) (intOf c)) && ascD (ys.map told)) <;> cases (zs.all (okPair (intOf a) (intOf c)) && ascD (zs.map told)) <;> rfl
  · rename_i h
    first
      | rfl
      | (split
         · rename_i a b c s m e q; exact absurd q (h a b c s m e)
         · rfl)
/-! ### the look sees no difference of lists and tuples -/
theorem seq_told (d : PyData) : seqD (told d) = (seqD d).map (·.map told) := by
  cases d <;> simp [told, seqD, tolds_map]
theorem numOk_told (m d : PyData) : numOk m (told d) = numOk m d := by cases d <;> first | rfl | (cases m <;> simp [told, numOk])
theorem below_told (m : Int) (d : PyData) : below m (told d) = below m d := by cases d <;> simp [told]
theorem isW_told (m d : PyData) : isW m (told d) = isW m d := by
  unfold isW
  rw [seq_told]
  cases seqD d with
  | none => rfl
  | some xs =>
    show (xs.map told).all (numOk m) = xs.all (numOk m)
    rw [List.all_map]
    congr 1
    funext x
    exact numOk_told m x
theorem told_told (n : Nat) : ∀ d : PyData, ht d ≤ n → told (told d) = told d := by
  induction n with
  | zero => intro d h; cases d <;> first | rfl | (simp [ht] at h)
  | succ n ih =>
    intro d h
    cases e : seqD d with
    | none => rw [told_no e, told_no e]
    | some xs =>
      have h1 := ht_seq e
      rw [told_seq e]
      show PyData.tuple (tolds (xs.map told)) = _
      rw [tolds_map, List.map_map]
      congr 1
      exact List.map_congr_left fun x hx => ih x (by have := hts_mem (xs := xs) x hx; omega)
theorem told2 (d : PyData) : told (told d) = told d := told_told _ d (Nat.le_refl _)
theorem okPair_told (st sg : Int) (x : PyData) : okPair st sg (told x) = okPair st sg x := by
  unfold okPair
  rw [seq_told]
  cases seqD x with
  | none => rfl
  | some xs => match xs with
    | [a, b] => show (below st (told a) && isW (.int sg) (told b)) = _; rw [below_told, isW_told]
    | [] => rfl
    | [_] => rfl
    | _ :: _ :: _ :: _ => rfl
theorem okMove_told (st le sg : Int) (x : PyData) : okMove st le sg (told x) = okMove st le sg x := by
  unfold okMove
  rw [seq_told]
  cases seqD x with
  | none => rfl
  | some xs => match xs with
    | [a, b, c, d] => show (below st (told a) && below le (told b) && isW (.int sg) (told c) && below st (told d)) = _; rw [below_told, below_told, below_told, isW_told]
    | [] => rfl
    | [_] => rfl
    | [_, _] => rfl
    | [_, _, _] => rfl
    | _ :: _ :: _ :: _ :: _ :: _ => rfl
theorem isPairs_told (st sg : Int) (d : PyData) : isPairs st sg (told d) = isPairs st sg d := by
  unfold isPairs
  rw [seq_told]
  cases seqD d with
  | none => rfl
  | some xs =>
    show ((xs.map told).all (okPair st sg) && ascD ((xs.map told).map told)) = _
    rw [List.all_map, List.map_map]
    have h1 : (okPair st sg ∘ told) = okPair st sg := funext fun x => okPair_told st sg x
    have h2 : (told ∘ told) = told := funext fun x => told2 x
    rw [h1, h2]
theorem isMoves_told (st le sg : Int) (d : PyData) : isMoves st le sg (told d) = isMoves st le sg d := by
  unfold isMoves
  rw [seq_told]
  cases seqD d with
  | none => rfl
  | some xs =>
    show ((xs.map told).all (okMove st le sg) && ascD ((xs.map told).map told)) = _
    rw [List.all_map, List.map_map]
    have h1 : (okMove st le sg ∘ told) = okMove st le sg := funext fun x => okMove_told st le sg x
    have h2 : (told ∘ told) = told := funext fun x => told2 x
    rw [h1, h2]
theorem posI_told (d : PyData) : posI (told d) = posI d := by cases d <;> rfl
theorem intOf_told (d : PyData) : intOf (told d) = intOf d := by cases d <;> rfl
theorem lookM_told (d : PyData) : lookM (told d) = lookM d := by
  unfold lookM
  rw [seq_told]
  cases seqD d with
  | none => rfl
  | some xs => match xs with
    | [a, b, c, s, m, e] =>
      show ((posI (told a) && posI (told b) && posI (told c)) && (isPairs (intOf (told a)) (intOf (told c)) (told s) && isMoves (intOf (told a)) (intOf (told b)) (intOf (told c)) (told m) && isPairs (intOf (told a)) (intOf (told c)) (told e))) = _
      simp only [posI_told, intOf_told, isPairs_told, isMoves_told]
    | [] => rfl
    | [_] => rfl
    | [_, _] => rfl
    | [_, _, _] => rfl
    | [_, _, _, _] => rfl
    | [_, _, _, _, _] => rfl
    | _ :: _ :: _ :: _ :: _ :: _ :: _ :: _ => rfl
theorem look_same {d e : PyData} (h : told d = told e) : lookM d = lookM e := by rw [← lookM_told d, ← lookM_told e, h]
theorem ht_told (n : Nat) : ∀ d : PyData, ht d ≤ n → ht (told d) = ht d ∧ sz (told d) = sz d ∧ tame (told d) = tame d := by
  induction n with
  | zero => intro d h; cases d <;> first | exact ⟨rfl, rfl, rfl⟩ | (simp [ht] at h)
  | succ n ih =>
    intro d h
    cases e : seqD d with
    | none => rw [told_no e]; exact ⟨rfl, rfl, rfl⟩
    | some xs =>
      have h1 := ht_seq e
      have h2 := sz_seq e
      have h3 := tame_seq e
      have key : ∀ xs : List PyData, hts xs ≤ n → hts (xs.map told) = hts xs ∧ szs (xs.map told) = szs xs ∧ (xs.map told).all tame = xs.all tame := by
        intro xs
        induction xs with
        | nil => intro _; exact ⟨rfl, rfl, rfl⟩
        | cons x xs ih2 =>
          intro hx
          rw [hts] at hx
          obtain ⟨a1, a2, a3⟩ := ih x (by omega)
          obtain ⟨b1, b2, b3⟩ := ih2 (by omega)
          rw [List.map_cons, hts, hts, szs, szs, List.all_cons, List.all_cons, a1, a2, a3, b1, b2, b3]
          exact ⟨rfl, rfl, rfl⟩
      obtain ⟨c1, c2, c3⟩ := key xs (by omega)
      have e' : seqD (told d) = some (xs.map told) := by rw [seq_told, e]; rfl
      rw [ht_seq e', sz_seq e', tame_seq e', c1, c2, c3, h1, h2, h3]
      exact ⟨rfl, rfl, rfl⟩
theorem like {d e : PyData} (h : told e = told d) : ht e = ht d ∧ sz e = sz d ∧ tame e = tame d := by
  have a := ht_told _ d (Nat.le_refl _)
  have b := ht_told _ e (Nat.le_refl _)
  rw [h] at b
  exact ⟨b.1.symm.trans a.1, b.2.1.symm.trans a.2.1, b.2.2.symm.trans a.2.2⟩
end MC
namespace MC
open PySem PySem.Spec PyProof.Rows L2 DD
open PySem.W (alike dataLt dataLe AllAlike Sortable EachIs)
open Evl (Ex)
abbrev s__law_reader : Stmt := top 25
abbrev N__law_reader : List Str := ["stream", "stands", "letters", "signs", "moves", "ends", "stand", "letter"]
abbrev ps__law_reader : List Str := ["stream", "stands", "letters", "signs"]
theorem sc__law_reader : FnScope N__law_reader ps__law_reader (defScope s__law_reader) := ⟨rfl, rfl, rfl, by decide +kernel, rfl, by decide +kernel, by decide +kernel⟩
abbrev s__law_as_machine : Stmt := top 26
abbrev N__law_as_machine : List Str := ["reader", "rows", "stand", "letter"]
abbrev ps__law_as_machine : List Str := ["reader"]
theorem sc__law_as_machine : FnScope N__law_as_machine ps__law_as_machine (defScope s__law_as_machine) := ⟨rfl, rfl, rfl, by decide +kernel, rfl, by decide +kernel, by decide +kernel⟩
abbrev s__law_mirrored : Stmt := top 27
abbrev N__law_mirrored : List Str := ["machine", "starts", "moves", "stand", "word", "move"]
abbrev ps__law_mirrored : List Str := ["machine"]
theorem sc__law_mirrored : FnScope N__law_mirrored ps__law_mirrored (defScope s__law_mirrored) := ⟨rfl, rfl, rfl, by decide +kernel, rfl, by decide +kernel, by decide +kernel⟩
abbrev s__law_split : Stmt := top 28
abbrev N__law_split : List Str := ["stream", "machine", "stands", "stand", "moves", "move", "outs", "one", "way", "ends", "place", "word"]
abbrev ps__law_split : List Str := ["stream", "machine"]
theorem sc__law_split : FnScope N__law_split ps__law_split (defScope s__law_split) := ⟨rfl, rfl, rfl, by decide +kernel, rfl, by decide +kernel, by decide +kernel⟩
section
variable {P : Program} {w : World} {K : PySem.W.Frag} {mg : Str → Option Value} {base : Heap}
/-- a reader of the law's own, of at most k rows -/
def rMove (p : PyData × PyData) : Prop := ∃ (i j : Int) (w : PyData) (s : Int), p = (.tuple [.int i, .int j], .tuple [w, .int s]) ∧ wrd 2 w = true
def rEnd (p : PyData × PyData) : Prop := ∃ (i : Int) (w : PyData), p = (.int i, w) ∧ wrd 2 w = true
structure IsR (k : Nat) (d : PyData) : Prop where
  ex : ∃ (a b c : Int) (w0 : PyData) (ms es : List (PyData × PyData)), d = .tuple [.int a, .int b, .int c, w0, .dict ms, .dict es] ∧ 1 ≤ a ∧ a ≤ (k : Int) ∧ wrd 2 w0 = true ∧ ms.length ≤ k ∧ es.length ≤ k ∧ (∀ p ∈ ms, rMove p) ∧ (∀ p ∈ es, rEnd p)
def S_reader : ZSp := fun ds n Q => ∃ a b c : Int, ds = [.int a, .int b, .int c] ∧ 1 ≤ a ∧ a ≤ 10 ∧ 1 ≤ b ∧ b ≤ 10 ∧ 1 ≤ c ∧ c ≤ 1000 ∧ n < 1099500000000 ∧ ∀ d n', IsR 100 d → n' ≤ n + 1000000 → Q d n'
@[simp] theorem S_reader_at (a b c : Int) (n : Nat) (Q : PyData → Nat → Prop) : S_reader [.int a, .int b, .int c] n Q ↔ (1 ≤ a ∧ a ≤ 10 ∧ 1 ≤ b ∧ b ≤ 10 ∧ 1 ≤ c ∧ c ≤ 1000 ∧ n < 1099500000000 ∧ ∀ d n', IsR 100 d → n' ≤ n + 1000000 → Q d n') := ⟨fun ⟨_, _, _, h, q⟩ => by cases h; exact q, fun q => ⟨_, _, _, rfl, q⟩⟩
theorem okKey_T {es : List (PyData × PyData)} {i j : Int} (h : ∀ p ∈ es, rMove p) : okKey es (.tuple [.int i, .int j]) = true := by
  unfold okKey
  rw [Bool.or_eq_true]
  refine .inr ?_
  rw [Bool.and_eq_true]
  refine ⟨rfl, ?_⟩
  rw [List.all_eq_true]
  intro p hp
  obtain ⟨_, _, _, _, rfl, _⟩ := h p hp
  rfl
theorem okKey_A {es : List (PyData × PyData)} {i : Int} (h : ∀ p ∈ es, rEnd p) : okKey es (.int i) = true := by
  unfold okKey
  rw [Bool.or_eq_true]
  refine .inl ?_
  rw [Bool.and_eq_true]
  refine ⟨rfl, ?_⟩
  rw [List.all_eq_true]
  intro p hp
  obtain ⟨_, _, rfl, _⟩ := h p hp
  rfl
theorem d__law_reader (bi : ∀ x ∈ BI, mg x = none) (D : DefT K mg "_law_reader" s__law_reader ps__law_reader) (D__law_draw : DefZ P w K mg base 1 "_law_draw" 1 S_draw) (D__law_said : DefZ P w K mg base 3 "_law_said" 2 S_said) :
    DefZ P w K mg base 4 "_law_reader" 3 S_reader := by
  refine D.z N__law_reader sc__law_reader rfl fun f z cdv A outer s H E hr => ⟨_, _, jss_cons (js_par2 4 5 sc__law_reader.nd rfl rfl ju_dict0 ju_dict0)
      (jss_cons (js_for PassesOwn.never (ji_range1 (by rfl) (bi _ (by decide)) (je_var 1)) (jg_name 6 sc__law_reader.nd rfl (by first | exact Or.inl rfl | exact Or.inr rfl)) (jss_one (js_for PassesOwn.never (ji_range1 (by rfl) (bi _ (by decide)) (je_var 2)) (jg_name 7 sc__law_reader.nd rfl (by first | exact Or.inl rfl | exact Or.inr rfl)) (jss_one (js_if (jc_t c_gt (je_z 0 D__law_draw hr (ja_cons je_int ja_nil)) je_int) (jss_one (js_putD 4 hr (je_tup (ja_cons (je_z 0 D__law_said hr (ja_cons (je_var 3) (ja_cons je_int ja_nil))) (ja_cons (je_z 0 D__law_draw hr (ja_cons (je_var 1) ja_nil)) ja_nil))) (je_tup (ja_cons (je_var 6) (ja_cons (je_var 7) ja_nil))))) (jss_nil))))))
      (jss_cons (js_for PassesOwn.never (ji_range1 (by rfl) (bi _ (by decide)) (je_var 1)) (jg_name 6 sc__law_reader.nd rfl (by first | exact Or.inl rfl | exact Or.inr rfl)) (jss_one (js_if (jc_t c_gt (je_z 0 D__law_draw hr (ja_cons je_int ja_nil)) je_int) (jss_one (js_putD 5 hr (je_z 0 D__law_said hr (ja_cons (je_var 3) (ja_cons je_int ja_nil))) (je_var 6))) (jss_nil))))
      (jss_frzD 4 (jss_frzD 5 (jss_one (js_ret (je_tup (ja_cons (je_var 1) (ja_cons (je_var 2) (ja_cons (je_var 3) (ja_cons (je_z 0 D__law_said hr (ja_cons (je_var 3) (ja_cons je_int ja_nil))) (ja_cons (je_var 4) (ja_cons (je_var 5) ja_nil))))))))))))), fun ds n Q hl h => ?_⟩
  obtain ⟨a, b, c, rfl, a1, a2, b1, b2, c1, c2, hn, q⟩ := h
  simp [startZ, wFor_def]
  refine ⟨by omega, by omega, ?_⟩
  refine ⟨fun k en' => ∃ ms v6 v7 n', en' = ⟨[S.stm, S.val (PyData.int a), S.val (PyData.int b), S.val (PyData.int c), S.ownD ms, S.ownD [], v6, v7], n'⟩ ∧ ms.length ≤ k * 10 ∧ (∀ p ∈ ms, rMove p) ∧ k ≤ a.toNat ∧ n' ≤ n + k * 20000, ⟨[], _, _, _, rfl, by simp, by simp, by omega, by omega⟩, ?_, ?_⟩
  · rintro k d en' hk ⟨ms, v6, v7, n', rfl, h1, h2, h3, h4⟩
    have hk1 := (List.getElem?_eq_some_iff.mp hk).1
    simp at hk1
    obtain ⟨rfl, _⟩ := rgD_get hk
    simp [wFor_def, -Prod.forall]
    refine ⟨by omega, by omega, ?_⟩
    refine ⟨fun j en' => ∃ ms v7 n', en' = ⟨[S.stm, S.val (PyData.int a), S.val (PyData.int b), S.val (PyData.int c), S.ownD ms, S.ownD [], S.val (.int k), v7], n'⟩ ∧ ms.length ≤ k * 10 + j ∧ (∀ p ∈ ms, rMove p) ∧ j ≤ b.toNat ∧ n' ≤ n + k * 20000 + j * 2000, ⟨ms, _, _, rfl, by omega, h2, by omega, by omega⟩, ?_, ?_⟩
    · rintro j d en' hj ⟨ms, v7, n', rfl, g1, g2, g3, g4⟩
      have hj1 := (List.getElem?_eq_some_iff.mp hj).1
      simp at hj1
      obtain ⟨rfl, _⟩ := rgD_get hj
      simp [a1, c1, -Prod.forall]
      refine ⟨by omega, fun x x0 x1 => ?_⟩
      by_cases hx : 0 < x
      · rw [if_pos hx]
        refine ⟨by omega, by omega, fun wd n3 w1 w2 => ⟨by omega, by omega, fun y y0 y1 => ⟨okKey_T g2, by omega, _, _, _, ⟨⟨rfl, rfl⟩, rfl⟩, ?_, fun p hp => ?_, by omega, by omega⟩⟩⟩
        · have := putE_len ms (.tuple [.int k, .int j]) (.tuple [wd, .int y])
          omega
        · rcases putE_mem hp with rfl | hp
          · exact ⟨_, _, _, _, rfl, w1⟩
          · exact g2 p hp
      · rw [if_neg hx]
        exact ⟨_, _, _, ⟨⟨rfl, rfl⟩, rfl⟩, by omega, g2, by omega, by omega⟩
    · rintro en' ⟨ms, v7, n', rfl, g1, g2, g3, g4⟩
      simp [-Prod.forall] at g1 g4 ⊢
      exact ⟨_, _, _, _, ⟨⟨rfl, rfl, rfl⟩, rfl⟩, by omega, g2, by omega, by omega⟩
  · rintro en' ⟨ms, v6, v7, n', rfl, h1, h2, h3, h4⟩
    simp at h1 h4
    simp [-Prod.forall]
    refine ⟨by omega, by omega, ?_⟩
    refine ⟨fun j en' => ∃ es v6 n', en' = ⟨[S.stm, S.val (PyData.int a), S.val (PyData.int b), S.val (PyData.int c), S.ownD ms, S.ownD es, v6, v7], n'⟩ ∧ es.length ≤ j ∧ (∀ p ∈ es, rEnd p) ∧ j ≤ a.toNat ∧ n' ≤ n + a.toNat * 20000 + j * 2000, ⟨[], _, _, rfl, by simp, by simp, by omega, by omega⟩, ?_, ?_⟩
    · rintro j d en' hj ⟨es, v7, n', rfl, g1, g2, g3, g4⟩
      have hj1 := (List.getElem?_eq_some_iff.mp hj).1
      simp at hj1
      obtain ⟨rfl, _⟩ := rgD_get hj
      simp [a1, c1, -Prod.forall]
      refine ⟨by omega, fun x x0 x1 => ?_⟩
      by_cases hx : 0 < x
      · rw [if_pos hx]
        refine ⟨by omega, by omega, fun wd n3 w1 w2 => ⟨okKey_A g2, by omega, _, _, _, ⟨⟨rfl, rfl⟩, rfl⟩, ?_, fun p hp => ?_, by omega, by omega⟩⟩
        · have := putE_len es (.int j) wd
          omega
        · rcases putE_mem hp with rfl | hp
          · exact ⟨_, _, rfl, w1⟩
          · exact g2 p hp
      · rw [if_neg hx]
        exact ⟨_, _, _, ⟨⟨rfl, rfl⟩, rfl⟩, by omega, g2, by omega, by omega⟩
    · rintro en' ⟨es, v7, n', rfl, g1, g2, g3, g4⟩
      simp at g1 g4
      simp [c1]
      refine ⟨by omega, by omega, fun wd n3 w1 w2 => q _ _ ⟨a, b, c, wd, ms, es, rfl, a1, by omega, w1, by omega, by omega, h2, g2⟩ (by omega)⟩
theorem wrd_list {l : Nat} {xs : List PyData} : wrd l (.list xs) = true ↔ xs.length ≤ l ∧ ∀ x ∈ xs, whole x = true := by simp [wrd]
theorem wrd_rev {l : Nat} {xs : List PyData} (h : wrd l (.list xs) = true) : wrd l (.list xs.reverse) = true := by
  rw [wrd_list] at h ⊢
  simpa using h
theorem wrd_mono {l k : Nat} {d : PyData} (h : wrd l d = true) (hk : l ≤ k) : wrd k d = true := by
  obtain ⟨ws, rfl, hw⟩ := wrd_of h
  exact wrd_mk (by omega)
theorem pr_mono {l k : Nat} {d : PyData} (h : pr l d = true) (hk : l ≤ k) : pr k d = true := by
  obtain ⟨i, ws, rfl, hw⟩ := pr_of h
  exact pr_mk (wrd_mk (by omega))
theorem mv_mono {l k : Nat} {d : PyData} (h : mv l d = true) (hk : l ≤ k) : mv k d = true := by
  obtain ⟨i, j, ws, s, rfl, hw⟩ := mv_of h
  exact mv_mk (wrd_mk (by omega))
theorem IsM.mono {l k l' k' : Nat} {d : PyData} (h : IsM l k d) (hl : l ≤ l') (hk : k ≤ k') : IsM l' k' d := by
  obtain ⟨a, b, c, ss, ms, es, rfl, a1, a2, hs, hm, he, is, im, ie⟩ := h.ex
  exact ⟨a, b, c, ss, ms, es, rfl, a1, by omega, by omega, by omega, by omega, fun x hx => pr_mono (is x hx) hl, fun x hx => mv_mono (im x hx) hl, fun x hx => pr_mono (ie x hx) hl⟩
theorem sort_keysT {ms : List (PyData × PyData)} (h : ∀ p ∈ ms, rMove p) : OkSort (ms.map (·.1)) := by
  have sh : ∀ d ∈ ms.map (·.1), ∃ i j : Int, d = .tuple [.int i, .int j] := fun d hd => by
    obtain ⟨p, hp, rfl⟩ := List.mem_map.mp hd
    obtain ⟨i, j, w, s, rfl, _⟩ := h p hp
    exact ⟨i, j, rfl⟩
  refine ⟨flatDs_plain fun d hd => ?_, fun d hd e he => ?_, .inl fun d hd => ?_, fun d hd => ?_⟩
  · obtain ⟨i, j, rfl⟩ := sh d hd; rfl
  · obtain ⟨i, j, rfl⟩ := sh d hd
    obtain ⟨i', j', rfl⟩ := sh e he
    simp [alike, PySem.W.alikeAll]
  · obtain ⟨i, j, rfl⟩ := sh d hd; exact ⟨_, _, rfl⟩
  · obtain ⟨i, j, rfl⟩ := sh d hd; simp [PyData.depth, PyData.depthAll]
theorem sort_keysA {es : List (PyData × PyData)} (h : ∀ p ∈ es, rEnd p) : OkSort (es.map (·.1)) := by
  have sh : ∀ d ∈ es.map (·.1), ∃ i : Int, d = .int i := fun d hd => by
    obtain ⟨p, hp, rfl⟩ := List.mem_map.mp hd
    obtain ⟨i, w, rfl, _⟩ := h p hp
    exact ⟨i, rfl⟩
  refine ⟨flatDs_plain fun d hd => ?_, fun d hd e he => ?_, .inr fun d hd => ?_, fun d hd => ?_⟩
  · obtain ⟨i, rfl⟩ := sh d hd; rfl
  · obtain ⟨i, rfl⟩ := sh d hd
    obtain ⟨i', rfl⟩ := sh e he
    simp [alike]
  · obtain ⟨i, rfl⟩ := sh d hd; exact ⟨by simp, by simp⟩
  · obtain ⟨i, rfl⟩ := sh d hd; simp [PyData.depth]
def S_as_machine : PSp := fun ds Q => ∃ d k, ds = [d] ∧ IsR k d ∧ 1 ≤ k ∧ k ≤ 100000 ∧ ∀ m, IsM 2 k m → Q m
theorem d__law_as_machine (bi : ∀ x ∈ BI, mg x = none) (D : DefT K mg "_law_as_machine" s__law_as_machine ps__law_as_machine) :
    DefP P w K mg base 1 "_law_as_machine" 1 S_as_machine := by
  refine D.p N__law_as_machine sc__law_as_machine fun f cdv A outer s H E hr => ⟨_, _, jss_cons (js_setLcV 1 [("stand", 2), ("letter", 3)] sc__law_as_machine.nd rfl rfl (sw_true rfl rfl rfl (by decide +kernel)) (ji_seq ((jl_sortK hr bi (je_ix (je_var 0) je_int)).je')) (show blkC N__law_as_machine (defScope s__law_as_machine) _ _ = true by decide +kernel) (fun _ _ _ _ _ => jg_tup 2 (jgs_cons (jg_name 2 sc__law_as_machine.nd rfl (by first | exact Or.inl rfl | exact Or.inr rfl)) (jgs_cons (jg_name 3 sc__law_as_machine.nd rfl (by first | exact Or.inl rfl | exact Or.inr rfl)) jgs_nil))) (fun _ _ _ _ _ => jts_nil) (fun _ _ _ _ _ => je_tup (ja_cons (je_var 2) (ja_cons (je_var 3) (ja_cons (je_ix (je_dget hr (je_ix (je_var 0) je_int) (je_tup (ja_cons (je_var 2) (ja_cons (je_var 3) ja_nil)))) je_int) (ja_cons (je_ix (je_dget hr (je_ix (je_var 0) je_int) (je_tup (ja_cons (je_var 2) (ja_cons (je_var 3) ja_nil)))) je_int) ja_nil))))))
      (jss_one (js_ret (je_tup (ja_cons (je_ix (je_var 0) je_int) (ja_cons (je_ix (je_var 0) je_int) (ja_cons (je_ix (je_var 0) je_int) (ja_cons ((jl_lst (ja_cons (je_tup (ja_cons je_int (ja_cons (je_ix (je_var 0) je_int) ja_nil))) ja_nil)).je') (ja_cons (je_var 1) (ja_cons ((jl_lc [("stand", 2)] sc__law_as_machine.nd (ji_seq ((jl_sortK hr bi (je_ix (je_var 0) je_int)).je')) (show blkC N__law_as_machine (defScope s__law_as_machine) _ _ = true by decide +kernel) (fun _ _ _ _ _ => jg_name 2 sc__law_as_machine.nd rfl (by first | exact Or.inl rfl | exact Or.inr rfl)) (fun _ _ _ _ _ => jts_nil) (fun _ _ _ _ _ => je_tup (ja_cons (je_var 2) (ja_cons (je_dget hr (je_ix (je_var 0) je_int) (je_var 2)) ja_nil)))).je') ja_nil))))))))), fun ds Q hl h => ?_⟩
  obtain ⟨d, k, rfl, ⟨a, b, c, w0, ms, es, rfl, a1, a2, hw0, hm, he, im, ie⟩, k1, k2, q⟩ := h
  simp [startE, wLc_def]
  refine ⟨sort_keysT im, lci_pred (fun d => mv 2 d = true) 0 (by simp; omega) (fun j d n1 Q' hj hd _ hQ => ?_) fun rs n2 hr1 hr2 _ => ⟨sort_keysA ie, lci_pred (fun d => pr 2 d = true) 0 (by simp; omega) (fun j d n1 Q' hj hd _ hQ => ?_) fun es2 n3 he1 he2 _ => ?_⟩⟩
  · have hm := List.mem_mergeSort.mp (List.mem_of_getElem? hd)
    obtain ⟨v, hv, hvm⟩ := lookE_of hm
    obtain ⟨i, j, wd, s, e, hw⟩ := im _ hvm
    cases e
    simp [hv]
    exact hQ _ _ (mv_mk hw) (by omega)
  · have hm := List.mem_mergeSort.mp (List.mem_of_getElem? hd)
    obtain ⟨v, hv, hvm⟩ := lookE_of hm
    obtain ⟨i, wd, e, hw⟩ := ie _ hvm
    cases e
    simp [hv]
    exact hQ _ _ (pr_mk hw) (by omega)
  · simp at hr1 he1
    exact q _ ⟨a, b, c, _, _, _, rfl, a1, a2, by simpa using k1, by omega, by omega, by simpa using pr_mk hw0, hr2, he2⟩
def S_mirrored : PSp := fun ds Q => ∃ d l k, ds = [d] ∧ IsM l k d ∧ l ≤ 100000 ∧ k ≤ 100000 ∧ ∀ m, IsM l k m → Q m
theorem d__law_mirrored (bi : ∀ x ∈ BI, mg x = none) (D : DefT K mg "_law_mirrored" s__law_mirrored ps__law_mirrored) (D__law_unlike : DefP P w K mg base 1 "_law_unlike" 1 S_unlike) :
    DefP P w K mg base 2 "_law_mirrored" 1 S_mirrored := by
  refine D.p N__law_mirrored sc__law_mirrored fun f cdv A outer s H E hr => ⟨_, _, jss_cons (js_asg (je_f D__law_unlike hr (ja_cons ((jl_lc [("stand", 3), ("word", 4)] sc__law_mirrored.nd (ji_seq (je_ix (je_var 0) je_int)) (show blkC N__law_mirrored (defScope s__law_mirrored) _ _ = true by decide +kernel) (fun _ _ _ _ _ => jg_tup 2 (jgs_cons (jg_name 3 sc__law_mirrored.nd rfl (by first | exact Or.inl rfl | exact Or.inr rfl)) (jgs_cons (jg_name 4 sc__law_mirrored.nd rfl (by first | exact Or.inl rfl | exact Or.inr rfl)) jgs_nil))) (fun _ _ _ _ _ => jts_nil) (fun _ _ _ _ _ => je_tup (ja_cons (je_var 3) (ja_cons ((jl_rev ((jl_list (by rfl) (bi _ (by decide)) (je_var 4)).je')).je') ja_nil)))).je') ja_nil)) (jg_name 1 sc__law_mirrored.nd rfl (by first | exact Or.inl rfl | exact Or.inr rfl)))
      (jss_cons (js_asg (je_f D__law_unlike hr (ja_cons ((jl_lc [("move", 5)] sc__law_mirrored.nd (ji_seq (je_ix (je_var 0) je_int)) (show blkC N__law_mirrored (defScope s__law_mirrored) _ _ = true by decide +kernel) (fun _ _ _ _ _ => jg_name 5 sc__law_mirrored.nd rfl (by first | exact Or.inl rfl | exact Or.inr rfl)) (fun _ _ _ _ _ => jts_nil) (fun _ _ _ _ _ => je_tup (ja_cons (je_ix (je_var 5) je_int) (ja_cons (je_ix (je_var 5) je_int) (ja_cons ((jl_rev ((jl_list (by rfl) (bi _ (by decide)) (je_ix (je_var 5) je_int)).je')).je') (ja_cons (je_ix (je_var 5) je_int) ja_nil)))))).je') ja_nil)) (jg_name 2 sc__law_mirrored.nd rfl (by first | exact Or.inl rfl | exact Or.inr rfl)))
      (jss_one (js_ret (je_tup (ja_cons (je_ix (je_var 0) je_int) (ja_cons (je_ix (je_var 0) je_int) (ja_cons (je_ix (je_var 0) je_int) (ja_cons (je_var 1) (ja_cons (je_var 2) (ja_cons (je_f D__law_unlike hr (ja_cons ((jl_lc [("stand", 3), ("word", 4)] sc__law_mirrored.nd (ji_seq (je_ix (je_var 0) je_int)) (show blkC N__law_mirrored (defScope s__law_mirrored) _ _ = true by decide +kernel) (fun _ _ _ _ _ => jg_tup 2 (jgs_cons (jg_name 3 sc__law_mirrored.nd rfl (by first | exact Or.inl rfl | exact Or.inr rfl)) (jgs_cons (jg_name 4 sc__law_mirrored.nd rfl (by first | exact Or.inl rfl | exact Or.inr rfl)) jgs_nil))) (fun _ _ _ _ _ => jts_nil) (fun _ _ _ _ _ => je_tup (ja_cons (je_var 3) (ja_cons ((jl_rev ((jl_list (by rfl) (bi _ (by decide)) (je_var 4)).je')).je') ja_nil)))).je') ja_nil)) ja_nil)))))))))), fun ds Q hl h => ?_⟩
  obtain ⟨d, l, k, rfl, ⟨a, b, c, ss, ms, es, rfl, a1, a2, hs, hm, he, is, im, ie⟩, k1, k2, q⟩ := h
  simp [startE, wLc_def]
  have pair : ∀ (xs : List PyData), (∀ x ∈ xs, pr l x = true) → ∀ (en : En) (j : Nat) (d : PyData) (n1 : Nat) (Q' : PyData → Nat → Prop), xs[j]? = some d → en.s.length = 6 → (∀ r n3, pr l r = true → n3 ≤ n1 + 0 → Q' r n3) →
      (wgSq 2 (wgCons (wgN 3) (wgCons (wgN 4) wgNil))) (wipeE ⟨en.s, n1⟩ [3, 4]) d fun en2 => (wTup (wCons (wVar 3) (wCons (wAsL (wRev (wAsL (wListOf (wVar 4))))) wNil))) ⟨en2.s, en2.n⟩ Q' := fun xs h en j d n1 Q' hd hen hQ => by
    obtain ⟨i, ws, rfl, hw⟩ := pr_of (h d (List.mem_of_getElem? hd))
    simp [hen]
    exact hQ _ _ (pr_mk (wrd_rev (wrd_mk hw))) (by omega)
  refine lci_pred (fun d => pr l d = true) 0 (by omega) (fun j d n1 Q' hj hd _ hQ => pair es ie _ j d n1 Q' hd rfl hQ) fun s2 n2 a1' a2' _ => ?_
  refine ⟨by omega, rws_pr a2', fun s3 b1 b2 => ?_⟩
  refine lci_pred (fun d => mv l d = true) 0 (by omega) (fun j d n1 Q' hj hd _ hQ => ?_) fun m2 n3 c1 c2 _ => ?_
  · obtain ⟨i, j, ws, s, rfl, hw⟩ := mv_of (im d (List.mem_of_getElem? hd))
    simp
    exact hQ _ _ (mv_mk (wrd_rev (wrd_mk hw))) (by omega)
  refine ⟨by omega, rws_mv c2, fun m3 d1 d2 => ?_⟩
  refine lci_pred (fun d => pr l d = true) 0 (by omega) (fun j d n1 Q' hj hd _ hQ => pair ss is _ j d n1 Q' hd rfl hQ) fun e2 n4 e1' e2' _ => ?_
  exact ⟨by omega, rws_pr e2', fun e3 f1 f2 => q _ ⟨a, b, c, _, _, _, rfl, a1, a2, by omega, by omega, by omega, fun x hx => a2' x (b2 x hx), fun x hx => c2 x (d2 x hx), fun x hx => e2' x (f2 x hx)⟩⟩
def S_split : ZSp := fun ds n Q => ∃ d l k, ds = [d] ∧ IsM l k d ∧ l ≤ 100000 ∧ k ≤ 1000 ∧ n < 1099500000000 ∧ ∀ m n', IsM l (5 * k + 1) m → n' ≤ n + 10000 → Q m n'
theorem d__law_split (bi : ∀ x ∈ BI, mg x = none) (D : DefT K mg "_law_split" s__law_split ps__law_split) (D__law_draw : DefZ P w K mg base 1 "_law_draw" 1 S_draw) (D__law_unlike : DefP P w K mg base 1 "_law_unlike" 1 S_unlike) :
    DefZ P w K mg base 2 "_law_split" 1 S_split := by
  refine D.z N__law_split sc__law_split rfl fun f z cdv A outer s H E hr => ⟨_, _, jss_cons (js_asg (je_tup (ja_cons (je_ix (je_var 1) je_int) (ja_cons (je_z 0 D__law_draw hr (ja_cons (je_ix (je_var 1) je_int) ja_nil)) ja_nil))) (jg_tup 2 (jgs_cons (jg_name 2 sc__law_split.nd rfl (by first | exact Or.inl rfl | exact Or.inr rfl)) (jgs_cons (jg_name 3 sc__law_split.nd rfl (by first | exact Or.inl rfl | exact Or.inr rfl)) jgs_nil))))
      (jss_cons (js_asgL 4 sc__law_split.nd rfl (by first | exact Or.inl rfl | exact Or.inr rfl) (jl_lst ja_nil))
      (jss_cons (js_for PassesOwn.never (ji_seq (je_ix (je_var 1) je_int)) (jg_name 5 sc__law_split.nd rfl (by first | exact Or.inl rfl | exact Or.inr rfl)) (jss_cons (js_asg ((jl_cat ((jl_lst (ja_cons (je_var 5) ja_nil)).je') (je_if (jc_t (c_eq hr) (je_ix (je_var 5) je_int) (je_var 3)) ((jl_lst (ja_cons (je_tup (ja_cons (je_var 2) (ja_cons (je_ix (je_var 5) je_int) (ja_cons (je_ix (je_var 5) je_int) (ja_cons (je_ix (je_var 5) je_int) ja_nil))))) ja_nil)).je') ((jl_lst ja_nil).je'))).je') (jg_name 6 sc__law_split.nd rfl (by first | exact Or.inl rfl | exact Or.inr rfl)))
      (jss_one (js_for PassesOwn.never (ji_seq (je_var 6)) (jg_name 7 sc__law_split.nd rfl (by first | exact Or.inl rfl | exact Or.inr rfl)) (jss_cons (js_asg (je_z 0 D__law_draw hr (ja_cons je_int ja_nil)) (jg_name 8 sc__law_split.nd rfl (by first | exact Or.inl rfl | exact Or.inr rfl)))
      (jss_cons (js_ext 4 (je_if ((jw_or (jc_t (c_ne hr) (je_ix (je_var 7) je_int) (je_var 3)) (jw_or1 (jc_t c_gt (je_var 8) je_int))).jt) ((jl_lst (ja_cons (je_var 7) ja_nil)).je') ((jl_lst ja_nil).je')))
      (jss_one (js_ext 4 (je_if ((jw_and (jc_t (c_eq hr) (je_ix (je_var 7) je_int) (je_var 3)) (jw_and1 (jc_t c_lt (je_var 8) je_int))).jt) ((jl_lst (ja_cons (je_tup (ja_cons (je_ix (je_var 7) je_int) (ja_cons (je_ix (je_var 7) je_int) (ja_cons (je_ix (je_var 7) je_int) (ja_cons (je_var 2) ja_nil))))) ja_nil)).je') ((jl_lst ja_nil).je'))))))))))
      (jss_cons (js_asg ((jl_cat ((jl_list (by rfl) (bi _ (by decide)) (je_ix (je_var 1) je_int)).je') ((jl_lc [("place", 10), ("word", 11)] sc__law_split.nd (ji_seq (je_ix (je_var 1) je_int)) (show blkC N__law_split (defScope s__law_split) _ _ = true by decide +kernel) (fun _ _ _ _ _ => jg_tup 2 (jgs_cons (jg_name 10 sc__law_split.nd rfl (by first | exact Or.inl rfl | exact Or.inr rfl)) (jgs_cons (jg_name 11 sc__law_split.nd rfl (by first | exact Or.inl rfl | exact Or.inr rfl)) jgs_nil))) (fun _ _ _ _ _ => jts_one (jc_t (c_eq hr) (je_var 10) (je_var 3))) (fun _ _ _ _ _ => je_tup (ja_cons (je_var 2) (ja_cons (je_var 11) ja_nil)))).je')).je') (jg_name 9 sc__law_split.nd rfl (by first | exact Or.inl rfl | exact Or.inr rfl)))
      (jss_frz 4 (jss_one (js_ret (je_tup (ja_cons (je_add (je_var 2) je_int) (ja_cons (je_ix (je_var 1) je_int) (ja_cons (je_ix (je_var 1) je_int) (ja_cons (je_ix (je_var 1) je_int) (ja_cons (je_f D__law_unlike hr (ja_cons (je_var 4) ja_nil)) (ja_cons (je_var 9) ja_nil))))))))))))), fun ds n Q hl h => ?_⟩
  obtain ⟨d, l, k, rfl, ⟨a, b, c, ss, ms, es, rfl, a1, a2, hs, hm, he, is, im, ie⟩, k1, k2, hn, q⟩ := h
  simp [startZ, wLc_def, wFor_def]
  refine ⟨a1, by omega, by omega, fun x x0 x1 => ?_⟩
  refine ⟨fun i en' => ∃ rs v5 v6 v7 v8 n', en' = ⟨[S.stm, S.val (PyData.tuple [PyData.int a, PyData.int b, PyData.int c, PyData.list ss, PyData.list ms, PyData.list es]), S.val (PyData.int a), S.val (PyData.int x), S.own rs, v5, v6, v7, v8, S.no, S.no, S.no], n'⟩ ∧ rs.length ≤ 4 * i ∧ (∀ r ∈ rs, mv l r = true) ∧ i ≤ ms.length ∧ n' ≤ n + 1 + i * 2, ⟨[], _, _, _, _, _, rfl, by simp, by simp, by omega, by omega⟩, ?_, ?_⟩
  · rintro i d en' hi ⟨rs, v5, v6, v7, v8, n', rfl, h1, h2, h3, h4⟩
    have hi1 := (List.getElem?_eq_some_iff.mp hi).1
    obtain ⟨p, q1, ws, r, rfl, hw⟩ := mv_of (im d (List.mem_of_getElem? hi))
    have run : ∀ outs : List PyData, outs.length ≤ 2 → (∀ o ∈ outs, mv l o = true) → ForIn (wgN 7)
        (wSeq (wAsg (wCallZ 0 1 S_draw (wCons (wC (PyData.int 3)) wNil)) (wgN 8))
          (wSeq (wExt 4 (wIf (wOr (wB (wOp fNe (wOp fIx (wVar 7) (wC (PyData.int 3))) (wVar 3))) (wB (wOp (fI0 fun i j => PyData.bool (decide (j < i))) (wVar 8) (wC (PyData.int 0))))) (wAsL (wLst (wCons (wVar 7) wNil))) (wAsL (wLst wNil))))
            (wExt 4 (wIf (wAnd (wB (wOp fEq (wOp fIx (wVar 7) (wC (PyData.int 3))) (wVar 3))) (wB (wOp (fI0 fun i j => PyData.bool (decide (i < j))) (wVar 8) (wC (PyData.int 2)))))
              (wAsL (wLst (wCons (wTup (wCons (wOp fIx (wVar 7) (wC (PyData.int 0))) (wCons (wOp fIx (wVar 7) (wC (PyData.int 1))) (wCons (wOp fIx (wVar 7) (wC (PyData.int 2))) (wCons (wVar 2) wNil))))) wNil))) (wAsL (wLst wNil))))))
        { nx := fun en' => ∃ rs v5 v6 v7 v8 n', en' = ⟨[S.stm, S.val (PyData.tuple [PyData.int a, PyData.int b, PyData.int c, PyData.list ss, PyData.list ms, PyData.list es]), S.val (PyData.int a), S.val (PyData.int x), S.own rs, v5, v6, v7, v8, S.no, S.no, S.no], n'⟩ ∧ rs.length ≤ 4 * (i + 1) ∧ (∀ r ∈ rs, mv l r = true) ∧ i + 1 ≤ ms.length ∧ n' ≤ n + 1 + (i + 1) * 2, rt := Q }
        ⟨[S.stm, S.val (PyData.tuple [PyData.int a, PyData.int b, PyData.int c, PyData.list ss, PyData.list ms, PyData.list es]), S.val (PyData.int a), S.val (PyData.int x), S.own rs, S.val (.tuple [.int p, .int q1, .list (ws.map PyData.int), .int r]), S.val (.list outs), v7, v8, S.no, S.no, S.no], n'⟩ outs n' := fun outs ho hm' => by
      refine ⟨fun j en' => ∃ rs v7 v8 n', en' = ⟨[S.stm, S.val (PyData.tuple [PyData.int a, PyData.int b, PyData.int c, PyData.list ss, PyData.list ms, PyData.list es]), S.val (PyData.int a), S.val (PyData.int x), S.own rs, S.val (.tuple [.int p, .int q1, .list (ws.map PyData.int), .int r]), S.val (.list outs), v7, v8, S.no, S.no, S.no], n'⟩ ∧ rs.length ≤ 4 * i + 2 * j ∧ (∀ r ∈ rs, mv l r = true) ∧ n' ≤ n + 1 + i * 2 + j, ⟨rs, _, _, _, rfl, by omega, h2, by omega⟩, ?_, ?_⟩
      · rintro j d en' hj ⟨rs, v7, v8, n', rfl, g1, g2, g4⟩
        have hj1 := (List.getElem?_eq_some_iff.mp hj).1
        have hd := hm' d (List.mem_of_getElem? hj)
        obtain ⟨p', q', ws', r', rfl, hw'⟩ := mv_of hd
        simp
        refine ⟨by omega, fun y y0 y1 => ?_⟩
        have fin : ∀ rs' : List PyData, (∀ r ∈ rs', r ∈ rs ∨ mv l r = true) → ∀ r ∈ rs', mv l r = true := fun rs' h r hr => (h r hr).elim (g2 r) id
        have mvv : ∀ s : Int, mv l (.tuple [.int p', .int q', .list (ws'.map PyData.int), .int s]) = true := fun s => mv_mk (wrd_mk hw')
        by_cases hx : r' = x <;> by_cases hy0 : 0 < y <;> by_cases hy2 : y < 2 <;> simp [hx, hy0, hy2] <;> repeat (refine And.intro (by omega) ?_)
        all_goals first
          | exact ⟨_, _, _, _, ⟨⟨rfl, rfl, rfl⟩, rfl⟩, by simp; omega, fin _ (fun r hr => by simp only [List.mem_append, List.mem_cons, List.not_mem_nil, or_false] at hr; rcases hr with hr | rfl | rfl <;> first | exact .inl hr | exact .inr (mvv _)), by omega⟩
          | exact ⟨_, _, _, _, ⟨⟨rfl, rfl, rfl⟩, rfl⟩, by simp; omega, fin _ (fun r hr => by simp only [List.mem_append, List.mem_cons, List.not_mem_nil, or_false] at hr; rcases hr with hr | rfl <;> first | exact .inl hr | exact .inr (mvv _)), by omega⟩
          | exact ⟨_, _, _, _, ⟨⟨rfl, rfl, rfl⟩, rfl⟩, by omega, g2, by omega⟩
          | (exfalso; omega)
      · rintro en' ⟨rs, v7, v8, n', rfl, g1, g2, g4⟩
        exact ⟨rs, _, _, _, _, _, rfl, by omega, g2, hi1, by omega⟩
    simp [wFor_def]
    have m0 : mv l (.tuple [.int p, .int q1, .list (ws.map PyData.int), .int r]) = true := mv_mk (wrd_mk hw)
    have m1 : mv l (.tuple [.int a, .int q1, .list (ws.map PyData.int), .int r]) = true := mv_mk (wrd_mk hw)
    by_cases hp : p = x
    · rw [if_pos hp]
      exact run _ (by simp) fun o ho => by
        simp only [List.mem_cons, List.not_mem_nil, or_false] at ho
        rcases ho with rfl | rfl <;> assumption
    · rw [if_neg hp]
      exact run _ (by simp) fun o ho => by
        simp only [List.mem_cons, List.not_mem_nil, or_false] at ho
        rcases ho with rfl
        exact m0
  · rintro en' ⟨rs, v5, v6, v7, v8, n', rfl, h1, h2, h3, h4⟩
    simp
    refine lci_predF (fun d => pr l d = true) 0 (by omega) (fun j d n1 Q' R' hj hd _ hQ hR => ?_) fun e2 n2 e1 e3 _ => ?_
    · obtain ⟨i, ws, rfl, hw⟩ := pr_of (ie d (List.mem_of_getElem? hd))
      simp
      split
      · exact hQ _ _ (pr_mk (wrd_mk hw)) (by omega)
      · exact hR _ (by omega)
    · refine ⟨by omega, by omega, rws_mv h2, fun ys y1 y2 => q _ _ ⟨a + 1, b, c, ss, ys, es ++ e2, rfl, by omega, by omega, by omega, by omega, by simp; omega, is, fun x hx => h2 x (y2 x hx), fun x hx => ?_⟩ (by omega)⟩
      rcases List.mem_append.mp hx with hx | hx
      · exact ie x hx
      · exact e3 x hx
end
end MC
namespace MC
open PySem PySem.Spec PyProof.Rows L2 DD
open PySem.W (alike dataLt dataLe AllAlike Sortable EachIs)
open Evl (Ex)
abbrev s__law_pushed : Stmt := top 29
abbrev N__law_pushed : List Str := ["stream", "machine", "stand", "ahead", "sign", "moves", "move", "word", "starts", "ends", "place"]
abbrev ps__law_pushed : List Str := ["stream", "machine"]
theorem sc__law_pushed : FnScope N__law_pushed ps__law_pushed (defScope s__law_pushed) := ⟨rfl, rfl, rfl, by decide +kernel, rfl, by decide +kernel, by decide +kernel⟩
section
variable {P : Program} {w : World} {K : PySem.W.Frag} {mg : Str → Option Value} {base : Heap}
theorem cutD_sub {α : Type} {xs : List α} {a b : Option Int} : (DD.cutD xs a b).length ≤ xs.length ∧ ∀ x ∈ DD.cutD xs a b, x ∈ xs := by
  unfold DD.cutD
  refine ⟨?_, fun x hx => List.mem_of_mem_drop (List.mem_of_mem_take hx)⟩
  rw [List.length_take, List.length_drop]
  omega
theorem wrd_cut {l : Nat} {xs : List PyData} {a b : Option Int} (h : wrd l (.list xs) = true) : wrd l (.list (DD.cutD xs a b)) = true := by
  rw [wrd_list] at h ⊢
  have := cutD_sub (xs := xs) (a := a) (b := b)
  exact ⟨by omega, fun x hx => h.2 x (this.2 x hx)⟩
def S_pushed : ZSp := fun ds n Q => ∃ d l k, ds = [d] ∧ IsM l k d ∧ l ≤ 1000 ∧ k ≤ 1000 ∧ n < 1099500000000 ∧ ∀ m n', IsM (l + 1) k m → n' ≤ n + 1 → Q m n'
theorem d__law_pushed (bi : ∀ x ∈ BI, mg x = none) (D : DefT K mg "_law_pushed" s__law_pushed ps__law_pushed) (D__law_draw : DefZ P w K mg base 1 "_law_draw" 1 S_draw) (D__law_unlike : DefP P w K mg base 1 "_law_unlike" 1 S_unlike) :
    DefZ P w K mg base 2 "_law_pushed" 1 S_pushed := by
  refine D.z N__law_pushed sc__law_pushed rfl fun f z cdv A outer s H E hr => ⟨_, _, jss_cons (js_asg (je_z 0 D__law_draw hr (ja_cons (je_ix (je_var 1) je_int) ja_nil)) (jg_name 2 sc__law_pushed.nd rfl (by first | exact Or.inl rfl | exact Or.inr rfl)))
      (jss_cons (js_asg ((jl_cat ((jl_lc [("place", 10), ("word", 7)] sc__law_pushed.nd (ji_seq (je_ix (je_var 1) je_int)) (show blkC N__law_pushed (defScope s__law_pushed) _ _ = true by decide +kernel) (fun _ _ _ _ _ => jg_tup 2 (jgs_cons (jg_name 10 sc__law_pushed.nd rfl (by first | exact Or.inl rfl | exact Or.inr rfl)) (jgs_cons (jg_name 7 sc__law_pushed.nd rfl (by first | exact Or.inl rfl | exact Or.inr rfl)) jgs_nil))) (fun _ _ _ _ _ => jts_one (jc_t (c_eq hr) (je_var 10) (je_var 2))) (fun _ _ _ _ _ => je_var 7)).je') ((jl_lc [("move", 6)] sc__law_pushed.nd (ji_seq (je_ix (je_var 1) je_int)) (show blkC N__law_pushed (defScope s__law_pushed) _ _ = true by decide +kernel) (fun _ _ _ _ _ => jg_name 6 sc__law_pushed.nd rfl (by first | exact Or.inl rfl | exact Or.inr rfl)) (fun _ _ _ _ _ => jts_one (jc_t (c_eq hr) (je_ix (je_var 6) je_int) (je_var 2))) (fun _ _ _ _ _ => je_ix (je_var 6) je_int)).je')).je') (jg_name 3 sc__law_pushed.nd rfl (by first | exact Or.inl rfl | exact Or.inr rfl)))
      (jss_cons (js_if ((jw_or (jc_t (c_eq hr) (je_var 3) ((jl_lst ja_nil).je')) (jw_or (jc_t (c_in hr) ((jl_lst ja_nil).je') (je_var 3)) (jw_or1 (jt_b (je_any (by rfl) (bi _ (by decide)) ((jl_lc [("word", 7)] sc__law_pushed.nd (ji_seq (je_var 3)) (show blkC N__law_pushed (defScope s__law_pushed) _ _ = true by decide +kernel) (fun _ _ _ _ _ => jg_name 7 sc__law_pushed.nd rfl (by first | exact Or.inl rfl | exact Or.inr rfl)) (fun _ _ _ _ _ => jts_nil) (fun _ _ _ _ _ => jc_v (c_ne hr) (je_ix (je_var 7) (je_neg je_int)) (je_ix (je_ix (je_var 3) je_int) (je_neg je_int)))).je')))))).jt) (jss_one (js_ret (je_var 1))) (jss_nil))
      (jss_cons (js_unp2 4 5 sc__law_pushed.nd rfl rfl (by first | exact Or.inl rfl | exact Or.inr rfl) (by first | exact Or.inl rfl | exact Or.inr rfl) ((je_ix (je_ix (je_var 3) je_int) (je_neg je_int)).ju) ((jl_lst ja_nil).ju))
      (jss_cons (js_for PassesOwn.never (ji_seq (je_ix (je_var 1) je_int)) (jg_name 6 sc__law_pushed.nd rfl (by first | exact Or.inl rfl | exact Or.inr rfl)) (jss_cons (js_asg (je_if (jc_t (c_eq hr) (je_ix (je_var 6) je_int) (je_var 2)) ((jl_sl ((jl_list (by rfl) (bi _ (by decide)) (je_ix (je_var 6) je_int)).je') jo_none (jo_some (je_neg je_int))).je') ((jl_list (by rfl) (bi _ (by decide)) (je_ix (je_var 6) je_int)).je')) (jg_name 7 sc__law_pushed.nd rfl (by first | exact Or.inl rfl | exact Or.inr rfl)))
      (jss_one (js_app 5 (je_tup (ja_cons (je_ix (je_var 6) je_int) (ja_cons (je_ix (je_var 6) je_int) (ja_cons (je_if (jc_t (c_eq hr) (je_ix (je_var 6) je_int) (je_var 2)) ((jl_cat ((jl_lst (ja_cons (je_var 4) ja_nil)).je') (je_var 7)).je') (je_var 7)) (ja_cons (je_ix (je_var 6) je_int) ja_nil)))))))))
      (jss_cons (js_setLcV 8 [("place", 10), ("word", 7)] sc__law_pushed.nd rfl rfl (sw_true rfl rfl rfl (by decide +kernel)) (ji_seq (je_ix (je_var 1) je_int)) (show blkC N__law_pushed (defScope s__law_pushed) _ _ = true by decide +kernel) (fun _ _ _ _ _ => jg_tup 2 (jgs_cons (jg_name 10 sc__law_pushed.nd rfl (by first | exact Or.inl rfl | exact Or.inr rfl)) (jgs_cons (jg_name 7 sc__law_pushed.nd rfl (by first | exact Or.inl rfl | exact Or.inr rfl)) jgs_nil))) (fun _ _ _ _ _ => jts_nil) (fun _ _ _ _ _ => je_tup (ja_cons (je_var 10) (ja_cons (je_if (jc_t (c_eq hr) (je_var 10) (je_var 2)) ((jl_sl ((jl_list (by rfl) (bi _ (by decide)) (je_var 7)).je') jo_none (jo_some (je_neg je_int))).je') ((jl_list (by rfl) (bi _ (by decide)) (je_var 7)).je')) ja_nil))))
      (jss_cons (js_setLcV 9 [("place", 10), ("word", 7)] sc__law_pushed.nd rfl rfl (sw_true rfl rfl rfl (by decide +kernel)) (ji_seq (je_ix (je_var 1) je_int)) (show blkC N__law_pushed (defScope s__law_pushed) _ _ = true by decide +kernel) (fun _ _ _ _ _ => jg_tup 2 (jgs_cons (jg_name 10 sc__law_pushed.nd rfl (by first | exact Or.inl rfl | exact Or.inr rfl)) (jgs_cons (jg_name 7 sc__law_pushed.nd rfl (by first | exact Or.inl rfl | exact Or.inr rfl)) jgs_nil))) (fun _ _ _ _ _ => jts_nil) (fun _ _ _ _ _ => je_tup (ja_cons (je_var 10) (ja_cons (je_if (jc_t (c_eq hr) (je_var 10) (je_var 2)) ((jl_cat ((jl_lst (ja_cons (je_var 4) ja_nil)).je') ((jl_list (by rfl) (bi _ (by decide)) (je_var 7)).je')).je') ((jl_list (by rfl) (bi _ (by decide)) (je_var 7)).je')) ja_nil))))
      (jss_frz 5 (jss_one (js_ret (je_tup (ja_cons (je_ix (je_var 1) je_int) (ja_cons (je_ix (je_var 1) je_int) (ja_cons (je_ix (je_var 1) je_int) (ja_cons (je_f D__law_unlike hr (ja_cons (je_var 8) ja_nil)) (ja_cons (je_f D__law_unlike hr (ja_cons (je_var 5) ja_nil)) (ja_cons (je_var 9) ja_nil)))))))))))))))), fun ds n Q hl h => ?_⟩
  obtain ⟨d, l, k, rfl, ⟨a, b, c, ss, ms, es, rfl, a1, a2, hs, hm, he, is, im, ie⟩, k1, k2, hn, q⟩ := h
  have wset : ∀ {x : PyData}, wrd l x = true → okD x = true := fun h => okD_plain (plain_wrd h).1 (by have := (plain_wrd h).2; omega)
  simp [startZ, wLc_def, wFor_def, -List.any_eq_true, -List.any_eq_false, -List.any_append]
  refine ⟨a1, by omega, by omega, fun x x0 x1 => ?_⟩
  have same : ∀ n', n' ≤ n + 1 → Q (PyData.tuple [PyData.int a, PyData.int b, PyData.int c, PyData.list ss, PyData.list ms, PyData.list es]) n' := fun n' hn' => q _ _ ⟨a, b, c, ss, ms, es, rfl, a1, a2, hs, hm, he, fun x hx => pr_mono (is x hx) (by omega), fun x hx => mv_mono (im x hx) (by omega), fun x hx => pr_mono (ie x hx) (by omega)⟩ hn'
  refine lci_predF (fun d => wrd l d = true) 0 (by omega) (fun j d n1 Q' R' hj hd _ hQ hR => ?_) fun e2 n2 e1 e3 hn2 => ?_
  · obtain ⟨i, ws, rfl, hw⟩ := pr_of (is d (List.mem_of_getElem? hd))
    simp
    split
    · exact hQ _ _ (wrd_mk hw) (by omega)
    · exact hR _ (by omega)
  refine lci_predF (fun d => wrd l d = true) 0 (by omega) (fun j d n1 Q' R' hj hd _ hQ hR => ?_) fun e4 n3 e5 e6 hn3 => ?_
  · obtain ⟨i, j, ws, s, rfl, hw⟩ := mv_of (im d (List.mem_of_getElem? hd))
    simp
    split
    · exact hQ _ _ (wrd_mk hw) (by omega)
    · exact hR _ (by omega)
  have hall : ∀ y ∈ e2 ++ e4, wrd l y = true := fun y hy => (List.mem_append.mp hy).elim (e3 y) (e6 y)
  have hn3' : n3 ≤ n + 1 := by omega
  have hlen : (e2 ++ e4).length ≤ 100000 := by simp; omega
  refine ⟨by omega, ?_⟩
  generalize e2 ++ e4 = xs at hall hlen
  have okx : okD (.list xs) = true := okD_list (n := 1) (fun y hy => plain_wrd (hall y hy)) (by decide)
  have okn : okD (.list []) = true := rfl
  refine ⟨okx, okn, ?_⟩
  by_cases c1 : (PyData.list xs).eqv (PyData.list []) = true
  · rw [if_pos c1]; exact same _ hn3'
  rw [if_neg c1]
  refine ⟨okn, okx, ?_⟩
  by_cases c2 : (xs.any fun z => z.eqv (PyData.list [])) = true
  · rw [if_pos c2]; exact same _ hn3'
  rw [if_neg c2]
  have ne : ∀ y ∈ xs, ∃ (w0 : Int) (ws : List Int), y = .list (.int w0 :: ws.map PyData.int) ∧ ws.length + 1 ≤ l := fun y hy => by
    obtain ⟨ws, rfl, hw⟩ := wrd_of (hall y hy)
    cases ws with
    | nil => exact absurd (List.any_eq_true.mpr ⟨_, hy, by simp [PyData.eqv, PyData.eqvAll]⟩) c2
    | cons w0 ws => exact ⟨w0, ws, rfl, by simpa using hw⟩
  have lst : ∀ y ∈ xs, ∃ (ds : List PyData) (s : Int), seqD y = some ds ∧ ds.getLast? = some (.int s) := fun y hy => by
    obtain ⟨w0, ws, rfl, hw⟩ := ne y hy
    have : (PyData.int w0 :: ws.map PyData.int) = (w0 :: ws).map PyData.int := rfl
    rw [this]
    refine ⟨_, (w0 :: ws).getLast (by simp), rfl, ?_⟩
    rw [List.getLast?_map, List.getLast?_eq_some_getLast (by simp)]
    rfl
  cases xs with
  | nil => exact absurd (by simp [PyData.eqv, PyData.eqvAll]) c1
  | cons y0 ys0 =>
  obtain ⟨ds0, s0, e0, l0⟩ := lst y0 (by simp)
  refine lci_pred (fun d => ∃ b, d = .bool b) 0 hlen (fun j d n1 Q' hj hd _ hQ => ?_) fun rs n4 r1 r2 hn4 => ?_
  · obtain ⟨ds1, s1, e1', l1⟩ := lst d (List.mem_of_getElem? hd)
    simp [e0, e1', l0, l1]
    exact hQ _ _ ⟨_, rfl⟩ (by omega)
  have bools : ∀ rs : List PyData, (∀ r ∈ rs, ∃ b, r = PyData.bool b) → ∃ bs : List Bool, rs = bs.map PyData.bool := fun rs h => by
    induction rs with
    | nil => exact ⟨[], rfl⟩
    | cons r rs ih =>
      obtain ⟨b, rfl⟩ := h r (by simp)
      obtain ⟨bs, rfl⟩ := ih fun x hx => h x (by simp [hx])
      exact ⟨b :: bs, rfl⟩
  obtain ⟨bs, rfl⟩ := bools rs r2
  refine ⟨bs, rfl, ?_⟩
  have hn4' : n4 ≤ n + 1 := by omega
  by_cases c3 : bs.any id = true
  · rw [if_pos c3]; exact same _ hn4'
  rw [if_neg c3]
  refine ⟨y0, rfl, ds0, e0, .int s0, l0, ?_⟩
  refine ⟨fun i en' => ∃ rs v6 v7 n', en' = ⟨[S.stm, S.val (PyData.tuple [PyData.int a, PyData.int b, PyData.int c, PyData.list ss, PyData.list ms, PyData.list es]), S.val (PyData.int x), S.val (PyData.list (y0 :: ys0)), S.val (.int s0), S.own rs, v6, v7, S.no, S.no, S.no], n'⟩ ∧ rs.length ≤ i ∧ (∀ r ∈ rs, mv (l + 1) r = true) ∧ i ≤ ms.length ∧ n' ≤ n + 1, ⟨[], _, _, _, rfl, by simp, by simp, by omega, hn4'⟩, ?_, ?_⟩
  · rintro i d en' hi ⟨rs, v6, v7, n', rfl, h1, h2, h3, h4⟩
    have hi1 := (List.getElem?_eq_some_iff.mp hi).1
    obtain ⟨p, q1, ws, r, rfl, hw⟩ := mv_of (im d (List.mem_of_getElem? hi))
    have w1 : wrd l (.list (ws.map PyData.int)) = true := wrd_mk hw
    have w2 : wrd l (.list (DD.cutD (ws.map PyData.int) none (some (-1)))) = true := wrd_cut w1
    have go : ∀ ds : List PyData, wrd l (.list ds) = true → ∀ e : PyData, (e = .list ds ∨ e = .list (.int s0 :: ds)) → ∀ p q1 r : Int, mv (l + 1) (.tuple [.int p, .int q1, e, .int r]) = true := fun ds hd e he p q1 r => by
      rcases he with rfl | rfl
      · exact mv_mk (wrd_mono hd (by omega))
      · refine mv_mk ?_
        rw [wrd_list] at hd ⊢
        exact ⟨by simp; omega, by simpa using hd.2⟩
    have fin : ∀ e : PyData, mv (l + 1) e = true → ∀ z ∈ rs ++ [e], mv (l + 1) z = true := fun e he z hz => by
      rcases List.mem_append.mp hz with hz | hz
      · exact h2 z hz
      · rw [List.mem_singleton.mp hz]; exact he
    have l1 := (wrd_list.mp w1).1
    have l2 := (wrd_list.mp w2).1
    simp at l1
    by_cases c4 : r = x <;> by_cases c5 : p = x <;> simp [c4, c5] <;> repeat (refine And.intro (by omega) ?_)
    · exact ⟨_, _, _, _, ⟨⟨rfl, rfl, rfl⟩, rfl⟩, by simp; omega, fin _ (go _ w2 _ (.inr rfl) _ _ _), by omega, by omega⟩
    · exact ⟨_, _, _, _, ⟨⟨rfl, rfl, rfl⟩, rfl⟩, by simp; omega, fin _ (go _ w2 _ (.inl rfl) _ _ _), by omega, by omega⟩
    · exact ⟨_, _, _, _, ⟨⟨rfl, rfl, rfl⟩, rfl⟩, by simp; omega, fin _ (go _ w1 _ (.inr rfl) _ _ _), by omega, by omega⟩
    · exact ⟨_, _, _, _, ⟨⟨rfl, rfl, rfl⟩, rfl⟩, by simp; omega, fin _ (go _ w1 _ (.inl rfl) _ _ _), by omega, by omega⟩
  · rintro en' ⟨rs, v6, v7, n', rfl, h1, h2, h3, h4⟩
    simp
    refine lci_pred (fun d => pr (l + 1) d = true) 0 (by omega) (fun j d n1 Q' hj hd _ hQ => ?_) fun s2 n5 b1 b2 hn5 => ?_
    · obtain ⟨i, ws, rfl, hw⟩ := pr_of (is d (List.mem_of_getElem? hd))
      have w1 : wrd l (.list (ws.map PyData.int)) = true := wrd_mk hw
      by_cases c : i = x
      · simp [c]
        exact hQ _ _ (pr_mk (wrd_mono (wrd_cut w1) (by omega))) (by omega)
      · simp [c]
        exact hQ _ _ (pr_mk (wrd_mono w1 (by omega))) (by omega)
    refine lci_pred (fun d => pr (l + 1) d = true) 0 (by omega) (fun j d n1 Q' hj hd _ hQ => ?_) fun s3 n6 b3 b4 hn6 => ?_
    · obtain ⟨i, ws, rfl, hw⟩ := pr_of (ie d (List.mem_of_getElem? hd))
      have w1 : wrd l (.list (ws.map PyData.int)) = true := wrd_mk hw
      by_cases c : i = x
      · simp [c]
        refine ⟨by omega, hQ _ _ (pr_mk ?_) (by omega)⟩
        rw [wrd_list] at w1 ⊢
        exact ⟨by simp; omega, by simpa using w1.2⟩
      · simp [c]
        exact hQ _ _ (pr_mk (wrd_mono w1 (by omega))) (by omega)
    refine ⟨by omega, rws_pr b2, fun ys y1 y2 => ⟨by omega, rws_mv h2, fun zs z1 z2 => q _ _ ⟨a, b, c, ys, zs, s3, rfl, a1, a2, by omega, by omega, by omega, fun x hx => b2 x (y2 x hx), fun x hx => h2 x (z2 x hx), b4⟩ (by omega)⟩⟩
end
end MC
namespace MC
open PySem PySem.Spec PyProof.Rows L2 DD
open PySem.W (alike dataLt dataLe AllAlike Sortable EachIs)
open Evl (Ex)
abbrev s__law_by_last : Stmt := top 30
abbrev N__law_by_last : List Str := ["stream", "letters", "signs", "starts", "moves", "ends", "last", "letter", "said"]
abbrev ps__law_by_last : List Str := ["stream", "letters", "signs"]
theorem sc__law_by_last : FnScope N__law_by_last ps__law_by_last (defScope s__law_by_last) := ⟨rfl, rfl, rfl, by decide +kernel, rfl, by decide +kernel, by decide +kernel⟩
abbrev s__law_single : Stmt := top 31
abbrev N__law_single : List Str := ["stream", "letters", "signs", "way", "found", "k", "move"]
abbrev ps__law_single : List Str := ["stream"]
theorem sc__law_single : FnScope N__law_single ps__law_single (defScope s__law_single) := ⟨rfl, rfl, rfl, by decide +kernel, rfl, by decide +kernel, by decide +kernel⟩
theorem bools_ex : ∀ rs : List PyData, (∀ r ∈ rs, ∃ b, r = PyData.bool b) → ∃ bs : List Bool, rs = bs.map PyData.bool := fun rs h => by
  induction rs with
  | nil => exact ⟨[], rfl⟩
  | cons r rs ih =>
    obtain ⟨b, rfl⟩ := h r (by simp)
    obtain ⟨bs, rfl⟩ := ih fun x hx => h x (by simp [hx])
    exact ⟨b :: bs, rfl⟩
section
variable {P : Program} {w : World} {K : PySem.W.Frag} {mg : Str → Option Value} {base : Heap}
def S_by_last : ZSp := fun ds n Q => ∃ a b : Int, ds = [.int a, .int b] ∧ 1 ≤ a ∧ a ≤ 5 ∧ 1 ≤ b ∧ b ≤ 100 ∧ n < 1099500000000 ∧ ∀ m n', IsM 4 100 m → n' ≤ n + 100000 → Q m n'
@[simp] theorem S_by_last_at (a b : Int) (n : Nat) (Q : PyData → Nat → Prop) : S_by_last [.int a, .int b] n Q ↔ (1 ≤ a ∧ a ≤ 5 ∧ 1 ≤ b ∧ b ≤ 100 ∧ n < 1099500000000 ∧ ∀ m n', IsM 4 100 m → n' ≤ n + 100000 → Q m n') := ⟨fun ⟨_, _, h, q⟩ => by cases h; exact q, fun q => ⟨_, _, rfl, q⟩⟩
theorem d__law_by_last (bi : ∀ x ∈ BI, mg x = none) (D : DefT K mg "_law_by_last" s__law_by_last ps__law_by_last) (D__law_said : DefZ P w K mg base 3 "_law_said" 2 S_said) (D__law_unlike : DefP P w K mg base 1 "_law_unlike" 1 S_unlike) :
    DefZ P w K mg base 4 "_law_by_last" 2 S_by_last := by
  refine D.z N__law_by_last sc__law_by_last rfl fun f z cdv A outer s H E hr => ⟨_, _, jss_cons (js_par3 3 4 5 sc__law_by_last.nd rfl rfl rfl ((jl_lst ja_nil).ju) ((jl_lst ja_nil).ju) ((jl_lst ja_nil).ju))
      (jss_cons (js_for PassesOwn.never (ji_range1 (by rfl) (bi _ (by decide)) (je_var 1)) (jg_name 6 sc__law_by_last.nd rfl (by first | exact Or.inl rfl | exact Or.inr rfl)) (jss_cons (js_app 3 (je_tup (ja_cons (je_var 6) (ja_cons (je_z 0 D__law_said hr (ja_cons (je_var 2) (ja_cons je_int ja_nil))) ja_nil))))
      (jss_cons (js_for PassesOwn.never (ji_range1 (by rfl) (bi _ (by decide)) (je_var 1)) (jg_name 7 sc__law_by_last.nd rfl (by first | exact Or.inl rfl | exact Or.inr rfl)) (jss_cons (js_asg (je_z 0 D__law_said hr (ja_cons (je_var 2) (ja_cons je_int ja_nil))) (jg_name 8 sc__law_by_last.nd rfl (by first | exact Or.inl rfl | exact Or.inr rfl)))
      (jss_cons (js_app 4 (je_tup (ja_cons (je_var 6) (ja_cons (je_var 7) (ja_cons (je_var 8) (ja_cons (je_var 6) ja_nil))))))
      (jss_one (js_ext 4 (je_if (jc_t (c_eq hr) (je_var 7) (je_var 6)) ((jl_lst (ja_cons (je_tup (ja_cons (je_var 6) (ja_cons (je_var 7) (ja_cons ((jl_cat (je_var 8) (je_z 0 D__law_said hr (ja_cons (je_var 2) (ja_cons je_int ja_nil)))).je') (ja_cons (je_add (je_var 1) (je_var 6)) ja_nil))))) ja_nil)).je') ((jl_lst ja_nil).je')))))))
      (jss_one (js_app 5 (je_tup (ja_cons (je_add (je_var 1) (je_var 6)) (ja_cons (je_z 0 D__law_said hr (ja_cons (je_var 2) (ja_cons je_int ja_nil))) ja_nil))))))))
      (jss_frz 3 (jss_frz 4 (jss_frz 5 (jss_one (js_ret (je_tup (ja_cons (je_mul je_int (je_var 1)) (ja_cons (je_var 1) (ja_cons (je_var 2) (ja_cons (je_var 3) (ja_cons (je_f D__law_unlike hr (ja_cons (je_var 4) ja_nil)) (ja_cons (je_var 5) ja_nil))))))))))))), fun ds n Q hl h => ?_⟩
  obtain ⟨a, b, rfl, a1, a2, b1, b2, hn, q⟩ := h
  simp [startZ, wLc_def, wFor_def]
  refine ⟨by omega, by omega, ?_⟩
  refine ⟨fun i en' => ∃ r3 r4 r5 v6 v7 v8 n', en' = ⟨[S.stm, S.val (PyData.int a), S.val (PyData.int b), S.own r3, S.own r4, S.own r5, v6, v7, v8], n'⟩ ∧ r3.length ≤ i ∧ r4.length ≤ i * 10 ∧ r5.length ≤ i ∧ (∀ r ∈ r3, pr 4 r = true) ∧ (∀ r ∈ r4, mv 4 r = true) ∧ (∀ r ∈ r5, pr 4 r = true) ∧ i ≤ a.toNat ∧ n' ≤ n + i * 15000, ⟨[], [], [], _, _, _, _, rfl, by simp, by simp, by simp, by simp, by simp, by simp, by omega, by omega⟩, ?_, ?_⟩
  · rintro i d en' hi ⟨r3, r4, r5, v6, v7, v8, n', rfl, h1, h2, h3, h4, h5, h6, h7, h8⟩
    have hi1 := (List.getElem?_eq_some_iff.mp hi).1
    simp at hi1
    obtain ⟨rfl, _⟩ := rgD_get hi
    simp [wFor_def, b1]
    refine ⟨by omega, by omega, fun w1 n1 w2 hn1 => ⟨by omega, by omega, by omega, ?_⟩⟩
    refine ⟨fun j en' => ∃ r4 v7 v8 n', en' = ⟨[S.stm, S.val (PyData.int a), S.val (PyData.int b), S.own (r3 ++ [.tuple [.int i, w1]]), S.own r4, S.own r5, S.val (.int i), v7, v8], n'⟩ ∧ r4.length ≤ i * 10 + j * 2 ∧ (∀ r ∈ r4, mv 4 r = true) ∧ j ≤ a.toNat ∧ n' ≤ n1 + j * 2500, ⟨r4, _, _, _, rfl, by omega, h5, by omega, by omega⟩, ?_, ?_⟩
    · rintro j d en' hj ⟨r4, v7, v8, n', rfl, g1, g2, g3, g4⟩
      have hj1 := (List.getElem?_eq_some_iff.mp hj).1
      simp at hj1
      obtain ⟨rfl, _⟩ := rgD_get hj
      simp [b1]
      refine ⟨by omega, by omega, fun w3 n3 w4 hn3 => ⟨by omega, ?_⟩⟩
      have m1 : mv 4 (.tuple [.int i, .int j, w3, .int i]) = true := mv_mk (wrd_mono w4 (by omega))
      have fin : ∀ e : PyData, mv 4 e = true → ∀ z ∈ r4 ++ [e], mv 4 z = true := fun e he z hz => by
        rcases List.mem_append.mp hz with hz | hz
        · exact g2 z hz
        · rw [List.mem_singleton.mp hz]; exact he
      by_cases c : (j : Int) = (i : Int)
      · rw [if_pos c]
        refine ⟨by omega, by omega, fun w5 n5 w6 hn5 => ?_⟩
        obtain ⟨us, rfl, hu⟩ := wrd_of w4
        obtain ⟨vs, rfl, hv⟩ := wrd_of w6
        have m2 : mv 4 (.tuple [.int i, .int j, .list (us.map PyData.int ++ vs.map PyData.int), .int (a + i)]) = true := by
          rw [← List.map_append]
          exact mv_mk (wrd_mk (by simp; omega))
        have fin2 : ∀ e e' : PyData, mv 4 e = true → mv 4 e' = true → ∀ z ∈ r4 ++ [e, e'], mv 4 z = true := fun e e' he he' z hz => by
          rcases List.mem_append.mp hz with hz | hz
          · exact g2 z hz
          · simp only [List.mem_cons, List.not_mem_nil, or_false] at hz
            rcases hz with rfl | rfl
            · exact he
            · exact he'
        exact ⟨_, rfl, _, rfl, by simp; omega, by omega, _, _, _, _, ⟨⟨rfl, rfl, rfl⟩, rfl⟩, by simp; omega, fin2 _ _ m1 m2, by omega, by omega⟩
      · rw [if_neg c]
        exact ⟨by omega, _, _, _, _, ⟨⟨rfl, rfl, rfl⟩, rfl⟩, by simp; omega, fin _ m1, by omega, by omega⟩
    · rintro en' ⟨r4, v7, v8, n', rfl, g1, g2, g3, g4⟩
      simp at g1 g4
      simp [b1]
      have fin : ∀ (rs : List PyData) (e : PyData), (∀ z ∈ rs, pr 4 z = true) → pr 4 e = true → ∀ z ∈ rs ++ [e], pr 4 z = true := fun rs e hr he z hz => by
        rcases List.mem_append.mp hz with hz | hz
        · exact hr z hz
        · rw [List.mem_singleton.mp hz]; exact he
      refine ⟨by omega, by omega, fun w5 n5 w6 hn5 => ⟨by omega, _, _, _, _, _, _, _, ⟨⟨rfl, rfl, rfl, rfl, rfl, rfl⟩, rfl⟩, by simp; omega, by omega, by simp; omega, fin _ _ h4 (pr_mk (wrd_mono w2 (by omega))), g2, fin _ _ h6 (pr_mk (wrd_mono w6 (by omega))), by omega, by omega⟩⟩
  · rintro en' ⟨r3, r4, r5, v6, v7, v8, n', rfl, h1, h2, h3, h4, h5, h6, h7, h8⟩
    simp at h1 h2 h3 h8
    simp
    refine ⟨.inl ⟨by decide, by decide⟩, by omega, rws_mv h5, fun ys y1 y2 => q _ _ ⟨2 * a, a, b, r3, ys, r5, rfl, by omega, by omega, by omega, by omega, by omega, h4, fun x hx => h5 x (y2 x hx), h6⟩ (by omega)⟩
def S_single : ZSp := fun ds n Q => ds = [] ∧ n < 1099400000000 ∧ ∀ m n', IsM 10 600 m → n' ≤ n + 10000000 → Q m n'
@[simp] theorem S_single_at (n : Nat) (Q : PyData → Nat → Prop) : S_single [] n Q ↔ (n < 1099400000000 ∧ ∀ m n', IsM 10 600 m → n' ≤ n + 10000000 → Q m n') := ⟨fun ⟨_, q⟩ => q, fun q => ⟨rfl, q⟩⟩
theorem d__law_single (bi : ∀ x ∈ BI, mg x = none) (D : DefT K mg "_law_single" s__law_single ps__law_single) (D__law_draw : DefZ P w K mg base 1 "_law_draw" 1 S_draw) (D__law_by_last : DefZ P w K mg base 4 "_law_by_last" 2 S_by_last)
    (D__law_reader : DefZ P w K mg base 4 "_law_reader" 3 S_reader) (D__law_as_machine : DefP P w K mg base 1 "_law_as_machine" 1 S_as_machine) (D__law_mirrored : DefP P w K mg base 2 "_law_mirrored" 1 S_mirrored)
    (D__law_pushed : DefZ P w K mg base 2 "_law_pushed" 1 S_pushed) (D__law_split : DefZ P w K mg base 2 "_law_split" 1 S_split) :
    DefZ P w K mg base 5 "_law_single" 0 S_single := by
  refine D.z N__law_single sc__law_single rfl fun f z cdv A outer s H E hr => ⟨_, _, jss_cons (js_par3 1 2 3 sc__law_single.nd rfl rfl rfl ((je_add je_int (je_z 0 D__law_draw hr (ja_cons je_int ja_nil))).ju) ((je_add je_int (je_z 0 D__law_draw hr (ja_cons je_int ja_nil))).ju) ((je_z 0 D__law_draw hr (ja_cons je_int ja_nil)).ju))
      (jss_cut (js_if (jc_t (c_eq hr) (je_var 3) je_int) (jss_one (js_asg (je_z 0 D__law_by_last hr (ja_cons (je_var 1) (ja_cons (je_var 2) ja_nil))) (jg_name 4 sc__law_single.nd rfl (by first | exact Or.inl rfl | exact Or.inr rfl)))) (jss_cons (js_asg (je_f D__law_as_machine hr (ja_cons (je_z 0 D__law_reader hr (ja_cons (je_add je_int (je_z 0 D__law_draw hr (ja_cons je_int ja_nil))) (ja_cons (je_var 1) (ja_cons (je_var 2) ja_nil)))) ja_nil)) (jg_name 4 sc__law_single.nd rfl (by first | exact Or.inl rfl | exact Or.inr rfl)))
      (jss_one (js_asg (je_if (jc_t c_lt (je_var 3) je_int) (je_f D__law_mirrored hr (ja_cons (je_var 4) ja_nil)) (je_var 4)) (jg_name 4 sc__law_single.nd rfl (by first | exact Or.inl rfl | exact Or.inr rfl))))))
      (jss_cons (js_for PassesOwn.never (ji_range1 (by rfl) (bi _ (by decide)) (je_z 0 D__law_draw hr (ja_cons je_int ja_nil))) (jg_name 5 sc__law_single.nd rfl (by first | exact Or.inl rfl | exact Or.inr rfl)) (jss_one (js_asg (je_z 0 D__law_pushed hr (ja_cons (je_var 4) ja_nil)) (jg_name 4 sc__law_single.nd rfl (by first | exact Or.inl rfl | exact Or.inr rfl)))))
      (jss_cons (js_for PassesOwn.never (ji_range1 (by rfl) (bi _ (by decide)) (je_z 0 D__law_draw hr (ja_cons je_int ja_nil))) (jg_name 5 sc__law_single.nd rfl (by first | exact Or.inl rfl | exact Or.inr rfl)) (jss_one (js_asg (je_z 0 D__law_split hr (ja_cons (je_var 4) ja_nil)) (jg_name 4 sc__law_single.nd rfl (by first | exact Or.inl rfl | exact Or.inr rfl)))))
      (jss_cons (js_if ((jw_or (jc_t c_gt (je_ix (je_var 4) je_int) je_int) (jw_or (jc_t c_gt (je_len (by rfl) (bi _ (by decide)) (je_ix (je_var 4) je_int)) je_int) (jw_or1 (jt_b (je_any (by rfl) (bi _ (by decide)) ((jl_lc [("move", 6)] sc__law_single.nd (ji_seq (je_ix (je_var 4) je_int)) (show blkC N__law_single (defScope s__law_single) _ _ = true by decide +kernel) (fun _ _ _ _ _ => jg_name 6 sc__law_single.nd rfl (by first | exact Or.inl rfl | exact Or.inr rfl)) (fun _ _ _ _ _ => jts_nil) (fun _ _ _ _ _ => jc_v c_gt (je_len (by rfl) (bi _ (by decide)) (je_ix (je_var 6) je_int)) je_int)).je')))))).jt) (jss_one (js_ret (je_f D__law_as_machine hr (ja_cons (je_z 0 D__law_reader hr (ja_cons je_int (ja_cons (je_var 1) (ja_cons (je_var 2) ja_nil)))) ja_nil)))) (jss_nil))
      (jss_one (js_ret (je_var 4))))))), fun ds n Q hl h => ?_⟩
  obtain ⟨rfl, hn, q⟩ := h
  have fst : ∀ (e : En) (m : PyData) (n' : Nat) (x y : Int) (v3 : S), e = ⟨[S.stm, S.val (.int x), S.val (.int y), v3, S.val m, S.no, S.no], n'⟩ → 1 ≤ x → x ≤ 5 → 1 ≤ y → y ≤ 100 → IsM 4 100 m → n' ≤ n + 2000000 → ∃ m x y v3 n', e = ⟨[S.stm, S.val (.int x), S.val (.int y), v3, S.val m, S.no, S.no], n'⟩ ∧ 1 ≤ x ∧ x ≤ 5 ∧ 1 ≤ y ∧ y ≤ 100 ∧ IsM 4 100 m ∧ n' ≤ n + 2000000 :=
    fun e m n' x y v3 h1 h2 h3 h4 h5 h6 h7 => ⟨m, x, y, v3, n', h1, h2, h3, h4, h5, h6, h7⟩
  simp [startZ]
  refine ⟨by omega, fun x x0 x1 => ⟨by omega, fun y y0 y1 => ⟨by omega, fun v v0 v1 => ?_⟩⟩⟩
  refine ⟨fun e => ∃ m x y v3 n', e = ⟨[S.stm, S.val (.int x), S.val (.int y), v3, S.val m, S.no, S.no], n'⟩ ∧ 1 ≤ x ∧ x ≤ 5 ∧ 1 ≤ y ∧ y ≤ 100 ∧ IsM 4 100 m ∧ n' ≤ n + 2000000, ?_, ?_⟩
  · by_cases hv : v = 0
    · rw [if_pos hv]
      exact ⟨by omega, by omega, by omega, by omega, by omega, fun m n' h1 h2 => fst _ m n' _ _ _ rfl (by omega) (by omega) (by omega) (by omega) h1 (by omega)⟩
    · rw [if_neg hv]
      refine ⟨by omega, fun r r0 r1 => ⟨by omega, by omega, by omega, by omega, by omega, by omega, by omega, fun d n' h1 h2 => ?_⟩⟩
      refine ⟨d, 100, rfl, h1, by omega, by omega, fun m hm => ?_⟩
      show (if v < 4 then _ else _)
      by_cases hv4 : v < 4
      · rw [if_pos hv4]
        exact ⟨m, 2, 100, rfl, hm, by omega, by omega, fun m' hm' => fst _ m' n' _ _ _ rfl (by omega) (by omega) (by omega) (by omega) (hm'.mono (by omega) (by omega)) (by omega)⟩
      · rw [if_neg hv4]
        exact fst _ m n' _ _ _ rfl (by omega) (by omega) (by omega) (by omega) (hm.mono (by omega) (by omega)) (by omega)
  · rintro e ⟨m, x, y, v3, n', rfl, x1, x2, y1, y2, hm, hn'⟩
    simp [wLc_def, wFor_def]
    refine ⟨by omega, fun p p0 p1 => ⟨by omega, by omega, ?_⟩⟩
    refine ⟨fun i e => ∃ m v5 n', e = ⟨[S.stm, S.val (.int x), S.val (.int y), v3, S.val m, v5, S.no], n'⟩ ∧ IsM (4 + i) 100 m ∧ i ≤ p.toNat ∧ n' ≤ n + 2000001 + i, ⟨m, _, _, rfl, hm, by omega, by omega⟩, ?_, ?_⟩
    · rintro i d e hi ⟨m, v5, n', rfl, g1, g2, g3⟩
      have hi1 := (List.getElem?_eq_some_iff.mp hi).1
      simp at hi1
      simp
      exact ⟨m, 4 + i, 100, rfl, g1, by omega, by omega, by omega, fun m' n'' h1 h2 => ⟨_, _, _, ⟨⟨rfl, rfl⟩, rfl⟩, h1, by omega, by omega⟩⟩
    · rintro e ⟨m, v5, n', rfl, g1, g2, g3⟩
      simp at g1 g2 g3
      simp
      refine ⟨by omega, fun s s0 s1 => ⟨by omega, by omega, ?_⟩⟩
      refine ⟨fun i e => ∃ m v5 n', e = ⟨[S.stm, S.val (.int x), S.val (.int y), v3, S.val m, v5, S.no], n'⟩ ∧ IsM 7 (100 + i * 500) m ∧ i ≤ s.toNat ∧ n' ≤ n + 2100000 + i * 10000, ⟨m, _, _, rfl, g1.mono (by omega) (by omega), by omega, by omega⟩, ?_, ?_⟩
      · rintro i d e hi ⟨m, v5, n', rfl, g1, g2, g3⟩
        have hi1 := (List.getElem?_eq_some_iff.mp hi).1
        simp at hi1
        simp
        exact ⟨m, 7, 100 + i * 500, rfl, g1, by omega, by omega, by omega, fun m' n'' h1 h2 => ⟨_, _, _, ⟨⟨rfl, rfl⟩, rfl⟩, h1.mono (by omega) (by omega), by omega, by omega⟩⟩
      · rintro e ⟨m, v5, n', rfl, g1, g2, g3⟩
        simp at g1 g2 g3
        obtain ⟨a, b, c, ss, ms, es, rfl, a1, a2, hs, hm, he, is, im, ie⟩ := (g1.mono (l' := 7) (k' := 600) (by omega) (by omega)).ex
        simp
        have fb : ∀ n'' : Nat, n'' ≤ n + 3000000 → 1 ≤ x ∧ x ≤ 10 ∧ 1 ≤ y ∧ y ≤ 1000 ∧ n'' < 1099500000000 ∧ ∀ (d : PyData) (n3 : Nat), IsR 100 d → n3 ≤ n'' + 1000000 → S_as_machine [d] fun d => Q d n3 := fun n'' h => ⟨x1, by omega, y1, by omega, by omega, fun d n3 h1 h2 => ⟨d, 100, rfl, h1, by omega, by omega, fun m hm => q _ _ (hm.mono (by omega) (by omega)) (by omega)⟩⟩
        by_cases c1 : 5 < a
        · rw [if_pos c1]; exact fb _ (by omega)
        rw [if_neg c1]
        by_cases c2 : (12 : Int) < ms.length
        · rw [if_pos c2]; exact fb _ (by omega)
        rw [if_neg c2]
        refine lci_pred (fun d => ∃ b, d = .bool b) 0 (by omega) (fun j d n1 Q' hj hd _ hQ => ?_) fun rs n4 r1 r2 hn4 => ?_
        · obtain ⟨i, j, ws, s, rfl, hw⟩ := mv_of (im d (List.mem_of_getElem? hd))
          simp
          exact hQ _ _ ⟨_, rfl⟩ (by omega)
        obtain ⟨bs, rfl⟩ := bools_ex rs r2
        refine ⟨bs, rfl, ?_⟩
        by_cases c3 : true ∈ bs
        · rw [if_pos c3]; exact fb _ (by omega)
        · rw [if_neg c3]
          exact q _ _ ⟨a, b, c, ss, ms, es, rfl, a1, by omega, by omega, by omega, by omega, fun x hx => pr_mono (is x hx) (by omega), fun x hx => mv_mono (im x hx) (by omega), fun x hx => pr_mono (ie x hx) (by omega)⟩ (by omega)
end
end MC
namespace MC
open PySem PySem.Spec PyProof.Rows L2 DD
open PySem.W (alike dataLt dataLe AllAlike Sortable EachIs)
open Evl (Ex)
abbrev s__law_w_told : Stmt := top 32
abbrev N__law_w_told : List Str := ["thing", "part"]
abbrev ps__law_w_told : List Str := ["thing"]
theorem sc__law_w_told : FnScope N__law_w_told ps__law_w_told (defScope s__law_w_told) := ⟨rfl, rfl, rfl, by decide +kernel, rfl, by decide +kernel, by decide +kernel⟩
abbrev s__law_w_is_number : Stmt := top 33
abbrev N__law_w_is_number : List Str := ["thing", "most"]
abbrev ps__law_w_is_number : List Str := ["thing", "most"]
theorem sc__law_w_is_number : FnScope N__law_w_is_number ps__law_w_is_number (defScope s__law_w_is_number) := ⟨rfl, rfl, rfl, by decide +kernel, rfl, by decide +kernel, by decide +kernel⟩
abbrev s__law_w_is_word : Stmt := top 34
abbrev N__law_w_is_word : List Str := ["many", "thing", "one"]
abbrev ps__law_w_is_word : List Str := ["many", "thing"]
theorem sc__law_w_is_word : FnScope N__law_w_is_word ps__law_w_is_word (defScope s__law_w_is_word) := ⟨rfl, rfl, rfl, by decide +kernel, rfl, by decide +kernel, by decide +kernel⟩
abbrev s__law_w_rising : Stmt := top 35
abbrev N__law_w_rising : List Str := ["rows", "some", "row", "one", "other"]
abbrev ps__law_w_rising : List Str := ["rows"]
theorem sc__law_w_rising : FnScope N__law_w_rising ps__law_w_rising (defScope s__law_w_rising) := ⟨rfl, rfl, rfl, by decide +kernel, rfl, by decide +kernel, by decide +kernel⟩
abbrev s__law_w_are_pairs : Stmt := top 36
abbrev N__law_w_are_pairs : List Str := ["thing", "stands", "signs", "one"]
abbrev ps__law_w_are_pairs : List Str := ["thing", "stands", "signs"]
theorem sc__law_w_are_pairs : FnScope N__law_w_are_pairs ps__law_w_are_pairs (defScope s__law_w_are_pairs) := ⟨rfl, rfl, rfl, by decide +kernel, rfl, by decide +kernel, by decide +kernel⟩
abbrev s__law_w_are_moves : Stmt := top 37
abbrev N__law_w_are_moves : List Str := ["thing", "stands", "letters", "signs", "one"]
abbrev ps__law_w_are_moves : List Str := ["thing", "stands", "letters", "signs"]
theorem sc__law_w_are_moves : FnScope N__law_w_are_moves ps__law_w_are_moves (defScope s__law_w_are_moves) := ⟨rfl, rfl, rfl, by decide +kernel, rfl, by decide +kernel, by decide +kernel⟩
abbrev s__law_w_is_machine : Stmt := top 38
abbrev N__law_w_is_machine : List Str := ["thing", "one"]
abbrev ps__law_w_is_machine : List Str := ["thing"]
theorem sc__law_w_is_machine : FnScope N__law_w_is_machine ps__law_w_is_machine (defScope s__law_w_is_machine) := ⟨rfl, rfl, rfl, by decide +kernel, rfl, by decide +kernel, by decide +kernel⟩
def S_loose (k : Nat) : ZSp := fun ds n Q => ∃ d, ds = [d] ∧ tame d = true ∧ sz d ≤ 90000 ∧ ht d < k ∧ n + sz d < 1099511000000 ∧ ∀ e n', told e = told d → n' ≤ n + sz d → Q e n'
@[simp] theorem S_loose_at (k : Nat) (d : PyData) (n : Nat) (Q : PyData → Nat → Prop) : S_loose k [d] n Q ↔ (tame d = true ∧ sz d ≤ 90000 ∧ ht d < k ∧ n + sz d < 1099511000000 ∧ ∀ e n', told e = told d → n' ≤ n + sz d → Q e n') := ⟨fun ⟨_, h, q⟩ => by cases h; exact q, fun q => ⟨_, rfl, q⟩⟩
def S_told (k : Nat) : PSp := fun ds Q => ∃ d, ds = [d] ∧ lenOk d = true ∧ ht d < k ∧ Q (told d)
@[simp] theorem S_told_at (k : Nat) (d : PyData) (Q : PyData → Prop) : S_told k [d] Q ↔ (lenOk d = true ∧ ht d < k ∧ Q (told d)) := ⟨fun ⟨_, h, q⟩ => by cases h; exact q, fun q => ⟨_, rfl, q⟩⟩
def S_wnum : PSp := fun ds Q => ∃ d m, ds = [d, m] ∧ (m = .none ∨ ∃ k, m = .int k) ∧ Q (.bool (numOk m d))
@[simp] theorem S_wnum_int (d : PyData) (k : Int) (Q : PyData → Prop) : S_wnum [d, .int k] Q ↔ Q (.bool (numOk (.int k) d)) := ⟨fun ⟨_, _, h, _, q⟩ => by cases h; exact q, fun q => ⟨_, _, rfl, .inr ⟨k, rfl⟩, q⟩⟩
@[simp] theorem S_wnum_none (d : PyData) (Q : PyData → Prop) : S_wnum [d, .none] Q ↔ Q (.bool (numOk .none d)) := ⟨fun ⟨_, _, h, _, q⟩ => by cases h; exact q, fun q => ⟨_, _, rfl, .inl rfl, q⟩⟩
def S_wword : PSp := fun ds Q => ∃ d k, ds = [.int k, d] ∧ lenOk d = true ∧ Q (.bool (isW (.int k) d))
@[simp] theorem S_wword_at (d : PyData) (k : Int) (Q : PyData → Prop) : S_wword [.int k, d] Q ↔ (lenOk d = true ∧ Q (.bool (isW (.int k) d))) := ⟨fun ⟨_, _, h, q⟩ => by cases h; exact q, fun q => ⟨_, _, rfl, q⟩⟩
def S_rising : PSp := fun ds Q => ∃ d xs, ds = [d] ∧ seqD d = some xs ∧ lenOk d = true ∧ ht d < 9 ∧ AscOk (xs.map told) ∧ Q (.bool (ascD (xs.map told)))
def S_arePairs : PSp := fun ds Q => ∃ d st sg, ds = [d, .int st, .int sg] ∧ lenOk d = true ∧ ht d < 9 ∧ Q (.bool (isPairs st sg d))
@[simp] theorem S_arePairs_at (d : PyData) (st sg : Int) (Q : PyData → Prop) : S_arePairs [d, .int st, .int sg] Q ↔ (lenOk d = true ∧ ht d < 9 ∧ Q (.bool (isPairs st sg d))) := ⟨fun ⟨_, _, _, h, q⟩ => by cases h; exact q, fun q => ⟨_, _, _, rfl, q⟩⟩
def S_areMoves : PSp := fun ds Q => ∃ d st le sg, ds = [d, .int st, .int le, .int sg] ∧ lenOk d = true ∧ ht d < 9 ∧ Q (.bool (isMoves st le sg d))
@[simp] theorem S_areMoves_at (d : PyData) (st le sg : Int) (Q : PyData → Prop) : S_areMoves [d, .int st, .int le, .int sg] Q ↔ (lenOk d = true ∧ ht d < 9 ∧ Q (.bool (isMoves st le sg d))) := ⟨fun ⟨_, _, _, _, h, q⟩ => by cases h; exact q, fun q => ⟨_, _, _, _, rfl, q⟩⟩
def S_look : PSp := fun ds Q => ∃ d, ds = [d] ∧ lenOk d = true ∧ ht d < 10 ∧ Q (.bool (lookM d))
@[simp] theorem S_look_at (d : PyData) (Q : PyData → Prop) : S_look [d] Q ↔ (lenOk d = true ∧ ht d < 10 ∧ Q (.bool (lookM d))) := ⟨fun ⟨_, h, q⟩ => by cases h; exact q, fun q => ⟨_, rfl, q⟩⟩
/-- odd things -/
def OddOk (os : List PyData) : Prop := 1 ≤ os.length ∧ os.length ≤ 1000 ∧ ∀ o ∈ os, tame o = true ∧ sz o ≤ 10 ∧ ht o ≤ 3
def S_bent (k : Nat) : ZSp := fun ds n Q => ∃ d os, ds = [d, .list os] ∧ OddOk os ∧ tame d = true ∧ sz d ≤ 40000 ∧ ht d < k ∧ n + 6 * (ht d + 1) < 1099511000000 ∧ ∀ e n', tame e = true → sz e ≤ 2 * sz d + 10 → ht e ≤ ht d + 3 → n' ≤ n + 6 * (ht d + 1) → Q e n'
@[simp] theorem S_bent_at (k : Nat) (d : PyData) (os : List PyData) (n : Nat) (Q : PyData → Nat → Prop) : S_bent k [d, .list os] n Q ↔ (OddOk os ∧ tame d = true ∧ sz d ≤ 40000 ∧ ht d < k ∧ n + 6 * (ht d + 1) < 1099511000000 ∧ ∀ e n', tame e = true → sz e ≤ 2 * sz d + 10 → ht e ≤ ht d + 3 → n' ≤ n + 6 * (ht d + 1) → Q e n') := ⟨fun ⟨_, _, h, q⟩ => by cases h; exact q, fun q => ⟨_, _, rfl, q⟩⟩
theorem lens_at {d : PyData} {xs : List PyData} (h : lenOk d = true) (e : seqD d = some xs) : xs.length ≤ 100000 ∧ ∀ x ∈ xs, lenOk x = true := ⟨(lenOk_seq h e).1, lenOks_mem (lenOk_seq h e).2⟩
section
variable {P : Program} {w : World} {K : PySem.W.Frag} {mg : Str → Option Value} {base : Heap}
theorem d__law_loose (bi : ∀ x ∈ BI, mg x = none) (D : DefT K mg "_law_loose" s__law_loose ps__law_loose) (D__law_draw : DefZ P w K mg base 1 "_law_draw" 1 S_draw) : ∀ k, DefZ P w K mg base (k + 1) "_law_loose" 1 (S_loose k)
  | 0 => ((D.noneZ rfl).mono (Nat.zero_le _)).imp fun ds n Q hl ⟨d, _, _, _, h, _⟩ => absurd h (Nat.not_lt_zero _)
  | k + 1 => by
    have D__law_loose := d__law_loose bi D D__law_draw k
    refine D.z N__law_loose sc__law_loose rfl fun f z cdv A outer s H E hr => ⟨_, _, jss_cons (js_if (jt_not (jt_b (je_isi_LT bi (je_var 1)))) (jss_one (js_ret (je_var 1))) (jss_nil))
      (jss_cons (js_setLcV 2 [("part", 3)] sc__law_loose.nd rfl rfl (sw_true rfl rfl rfl (by decide +kernel)) (ji_seq (je_var 1)) (show blkC N__law_loose (defScope s__law_loose) _ _ = true by decide +kernel) (fun _ _ _ _ _ => jg_name 3 sc__law_loose.nd rfl (by first | exact Or.inl rfl | exact Or.inr rfl)) (fun _ _ _ _ _ => jts_nil) (fun _ _ _ _ _ => je_z 0 D__law_loose hr (ja_cons (je_var 3) ja_nil)))
      (jss_one (js_ret (je_if (jc_t (c_eq hr) (je_z 0 D__law_draw hr (ja_cons je_int ja_nil)) je_int) (je_tupOf (by rfl) (bi _ (by decide)) (je_var 2)) (je_var 2))))), fun ds n Q hl h => ?_⟩
    obtain ⟨d, rfl, ht1, hs, hh, hn, q⟩ := h
    simp [startZ, wLc_def]
    cases e : seqD d with
    | none =>
      simp [isSeq_no e]
      exact q d n rfl (by omega)
    | some xs =>
      simp [isSeq_of e]
      have h1 := ht_seq e
      have h2 := sz_seq e
      have h3 := szs_len xs
      rw [tame_seq e, List.all_eq_true] at ht1
      refine ⟨fun j acc n1 => acc.map told = (xs.take j).map told ∧ j ≤ xs.length ∧ n1 ≤ n + szs (xs.take j), ⟨rfl, Nat.zero_le _, by simp [szs]⟩, fun j x acc n1 hj ⟨g1, g2, g3⟩ => ?_, fun acc n1 ⟨g1, g2, g3⟩ => ?_⟩
      · have hx := List.mem_of_getElem? hj
        have hjl := (List.getElem?_eq_some_iff.mp hj).1
        have tk : xs.take (j + 1) = xs.take j ++ [x] := by rw [List.take_add_one, hj]; rfl
        have la : acc.length = j := by
          have := congrArg List.length g1
          simp at this
          omega
        have hm := szs_mem (xs := xs) x hx
        have hm2 := hts_mem (xs := xs) x hx
        have s1 : szs (xs.take (j + 1)) ≤ szs xs := by
          have := szs_app (xs.take (j + 1)) (xs.drop (j + 1))
          rw [List.take_append_drop] at this
          omega
        have s2 : szs (xs.take (j + 1)) = szs (xs.take j) + sz x := by rw [tk, szs_app]; simp only [szs]; omega
        simp [-List.map_take]
        refine ⟨ht1 x hx, by omega, by omega, by omega, fun e' n' he' hn' => ⟨by omega, ?_, by omega, ?_⟩⟩
        · rw [tk, g1, he']; simp
        · omega
      · rw [List.take_length] at g1 g3
        have la : acc.length = xs.length := by
          have := congrArg List.length g1
          simpa using this
        refine ⟨by omega, fun y y0 y1 => ?_⟩
        have t1 : told (.tuple acc) = told d := by rw [told_seq e, told_seq (d := .tuple acc) rfl, g1]
        have t2 : told (.list acc) = told d := by rw [told_seq e, told_seq (d := .list acc) rfl, g1]
        by_cases hy : y = 0
        · rw [if_pos hy]; exact q _ _ t1 (by omega)
        · rw [if_neg hy]; exact q _ _ t2 (by omega)
theorem d__law_w_told (bi : ∀ x ∈ BI, mg x = none) (D : DefT K mg "_law_w_told" s__law_w_told ps__law_w_told) : ∀ k, DefP P w K mg base k "_law_w_told" 1 (S_told k)
  | 0 => (D.none rfl).imp fun ds Q hl ⟨d, _, _, h, _⟩ => absurd h (Nat.not_lt_zero _)
  | k + 1 => by
    have D__law_w_told := d__law_w_told bi D k
    refine D.p N__law_w_told sc__law_w_told fun f cdv A outer s H E hr => ⟨_, _, jss_one (js_ret (je_if (jt_b (je_isi_LT bi (je_var 0))) (je_tupOf (by rfl) (bi _ (by decide)) ((jl_lc [("part", 1)] sc__law_w_told.nd (ji_seq (je_var 0)) (show blkC N__law_w_told (defScope s__law_w_told) _ _ = true by decide +kernel) (fun _ _ _ _ _ => jg_name 1 sc__law_w_told.nd rfl (by first | exact Or.inl rfl | exact Or.inr rfl)) (fun _ _ _ _ _ => jts_nil) (fun _ _ _ _ _ => je_f D__law_w_told hr (ja_cons (je_var 1) ja_nil))).je')) (je_var 0))), fun ds Q hl h => ?_⟩
    obtain ⟨d, rfl, hlen, hh, q⟩ := h
    simp [startE, wLc_def]
    cases e : seqD d with
    | none =>
      simp [isSeq_no e]
      rw [told_no e] at q
      exact q
    | some xs =>
      simp [isSeq_of e]
      have h1 := ht_seq e
      obtain ⟨l1, l2⟩ := lens_at hlen e
      rw [told_seq e] at q
      refine lci_map told l1 (fun x hx n1 Q' hQ => ?_) (by simpa using q)
      have := hts_mem (xs := xs) x hx
      simp
      exact ⟨l2 x hx, by omega, hQ⟩
theorem d__law_w_is_number (bi : ∀ x ∈ BI, mg x = none) (D : DefT K mg "_law_w_is_number" s__law_w_is_number ps__law_w_is_number) : DefP P w K mg base 1 "_law_w_is_number" 2 S_wnum := by
  refine D.p N__law_w_is_number sc__law_w_is_number fun f cdv A outer s H E hr => ⟨_, _, jss_one (js_ret (je_and (je_isi_int bi (je_var 0)) (je_and (je_not (je_isi_bool bi (je_var 0))) (je_and (jc_v c_ge (je_var 0) je_int) (je_one (je_or (je_isN (je_var 1)) (je_one (jc_v c_lt (je_var 0) (je_var 1))))))))), fun ds Q hl h => ?_⟩
  obtain ⟨d, m, rfl, hm, q⟩ := h
  rcases hm with rfl | ⟨k, rfl⟩
  · cases d with
    | int i => by_cases h : 0 ≤ i <;> simpa [startE, numOk, h] using q
    | _ => simpa [startE, numOk] using q
  · cases d with
    | int i => by_cases h : 0 ≤ i <;> simpa [startE, numOk, h] using q
    | _ => simpa [startE, numOk] using q
theorem d__law_w_is_word (bi : ∀ x ∈ BI, mg x = none) (D : DefT K mg "_law_w_is_word" s__law_w_is_word ps__law_w_is_word) (D__law_w_is_number : DefP P w K mg base 1 "_law_w_is_number" 2 S_wnum) : DefP P w K mg base 2 "_law_w_is_word" 2 S_wword := by
  refine D.p N__law_w_is_word sc__law_w_is_word fun f cdv A outer s H E hr => ⟨_, _, jss_one (js_ret (je_and (je_isi_LT bi (je_var 1)) (je_one (je_all (by rfl) (bi _ (by decide)) ((jl_lc [("one", 2)] sc__law_w_is_word.nd (ji_seq (je_var 1)) (show blkC N__law_w_is_word (defScope s__law_w_is_word) _ _ = true by decide +kernel) (fun _ _ _ _ _ => jg_name 2 sc__law_w_is_word.nd rfl (by first | exact Or.inl rfl | exact Or.inr rfl)) (fun _ _ _ _ _ => jts_nil) (fun _ _ _ _ _ => je_f D__law_w_is_number hr (ja_cons (je_var 2) (ja_cons (je_var 0) ja_nil)))).je'))))), fun ds Q hl h => ?_⟩
  obtain ⟨d, k, rfl, hlen, q⟩ := h
  simp [startE, wLc_def, -List.all_eq_true]
  unfold isW at q
  cases e : seqD d with
  | none =>
    rw [e] at q
    simp [isSeq_no e]
    exact q
  | some xs =>
    rw [e] at q
    obtain ⟨l1, l2⟩ := lens_at hlen e
    simp [isSeq_of e, -List.all_eq_true]
    refine lci_map (fun x => .bool (numOk (.int k) x)) l1 (fun x hx n1 Q' hQ => by simpa using hQ) (bools_of ?_)
    rw [all_map_id]
    exact q
theorem d__law_w_rising (bi : ∀ x ∈ BI, mg x = none) (D : DefT K mg "_law_w_rising" s__law_w_rising ps__law_w_rising) (D__law_w_told : DefP P w K mg base 9 "_law_w_told" 1 (S_told 9)) : DefP P w K mg base 10 "_law_w_rising" 1 S_rising := by
  refine D.p N__law_w_rising sc__law_w_rising fun f cdv A outer s H E hr => ⟨_, _, jss_cons (js_setLcV 1 [("row", 2)] sc__law_w_rising.nd rfl rfl (sw_true rfl rfl rfl (by decide +kernel)) (ji_seq (je_var 0)) (show blkC N__law_w_rising (defScope s__law_w_rising) _ _ = true by decide +kernel) (fun _ _ _ _ _ => jg_name 2 sc__law_w_rising.nd rfl (by first | exact Or.inl rfl | exact Or.inr rfl)) (fun _ _ _ _ _ => jts_nil) (fun _ _ _ _ _ => je_f D__law_w_told hr (ja_cons (je_var 2) ja_nil)))
      (jss_one (js_ret (je_all (by rfl) (bi _ (by decide)) ((jl_lc [("one", 3), ("other", 4)] sc__law_w_rising.nd (ji_zip (by rfl) (bi _ (by decide)) (je_var 1) (je_sl (je_var 1) (jo_some je_int) jo_none)) (show blkC N__law_w_rising (defScope s__law_w_rising) _ _ = true by decide +kernel) (fun _ _ _ _ _ => jg_tup 2 (jgs_cons (jg_name 3 sc__law_w_rising.nd rfl (by first | exact Or.inl rfl | exact Or.inr rfl)) (jgs_cons (jg_name 4 sc__law_w_rising.nd rfl (by first | exact Or.inl rfl | exact Or.inr rfl)) jgs_nil))) (fun _ _ _ _ _ => jts_nil) (fun _ _ _ _ _ => jc_v (c_ltD hr) (je_var 3) (je_var 4))).je')))), fun ds Q hl h => ?_⟩
  obtain ⟨d, xs, rfl, e, hlen, hh, asc, q⟩ := h
  simp [startE, wLc_def, e]
  have h1 := ht_seq e
  obtain ⟨l1, l2⟩ := lens_at hlen e
  refine lci_map told l1 (fun x hx n1 Q' hQ => ?_) ?_
  · have := hts_mem (xs := xs) x hx
    simp
    exact ⟨l2 x hx, by omega, hQ⟩
  rw [← List.drop_one]
  refine lci_map (fun d => .bool (match d with | PyData.tuple [x, y] => dataLt x y | _ => false)) (by rw [zipD_len]; simp; omega) (fun d hd n1 Q' h => ?_) (bools_of ?_)
  · obtain ⟨i, hi⟩ := List.getElem?_of_mem hd
    obtain ⟨x, y, h1, h2, rfl⟩ := zipD_get hi
    have hm : (x, y) ∈ (xs.map told).zip ((xs.map told).drop 1) := List.mem_of_getElem? (i := i) (by rw [List.getElem?_zip_eq_some]; exact ⟨h1, h2⟩)
    have hk := asc x y hm
    simpa [hk] using h
  · rw [all_map_id]
    have e := asc_eq (xs.map told) ((xs.map told).drop 1)
    exact Eq.mpr (congrArg (fun b => Q (PyData.bool b)) e) q
theorem row_pair {st sg : Int} {x : PyData} (h : row x 2 = false) : okPair st sg x = false := by
  unfold okPair
  split
  · rename_i a b e; unfold row at h; rw [e] at h; simp at h
  · rfl
theorem row_move {st le sg : Int} {x : PyData} (h : row x 4 = false) : okMove st le sg x = false := by
  unfold okMove
  split
  · rename_i a b c d e; unfold row at h; rw [e] at h; simp at h
  · rfl
theorem rowN {x : PyData} {n : Int} : (isSeq x && (match seqD x with | some xs => decide ((xs.length : Int) = n) | none => false)) = row x n := by
  unfold row
  cases e : seqD x with
  | none => simp
  | some xs => simp [isSeq_of e]
theorem d__law_w_are_pairs (bi : ∀ x ∈ BI, mg x = none) (D : DefT K mg "_law_w_are_pairs" s__law_w_are_pairs ps__law_w_are_pairs) (D__law_w_is_number : DefP P w K mg base 1 "_law_w_is_number" 2 S_wnum) (D__law_w_is_word : DefP P w K mg base 2 "_law_w_is_word" 2 S_wword) (D__law_w_rising : DefP P w K mg base 10 "_law_w_rising" 1 S_rising) : DefP P w K mg base 11 "_law_w_are_pairs" 3 S_arePairs := by
  refine D.p N__law_w_are_pairs sc__law_w_are_pairs fun f cdv A outer s H E hr => ⟨_, _, jss_cons (js_if ((jw_or (jt_not (jt_b (je_isi_LT bi (je_var 0)))) (jw_or1 (jt_not (jt_b (je_all (by rfl) (bi _ (by decide)) ((jl_lc [("one", 3)] sc__law_w_are_pairs.nd (ji_seq (je_var 0)) (show blkC N__law_w_are_pairs (defScope s__law_w_are_pairs) _ _ = true by decide +kernel) (fun _ _ _ _ _ => jg_name 3 sc__law_w_are_pairs.nd rfl (by first | exact Or.inl rfl | exact Or.inr rfl)) (fun _ _ _ _ _ => jts_nil) (fun _ _ _ _ _ => (je_and (je_isi_LT bi (je_var 3)) (je_one (jc_v (c_eq hr) (je_len (by rfl) (bi _ (by decide)) (je_var 3)) je_int))))).je')))))).jt) (jss_one (js_ret je_bl)) (jss_nil))
      (jss_one (js_ret (je_and (je_all (by rfl) (bi _ (by decide)) ((jl_lc [("one", 3)] sc__law_w_are_pairs.nd (ji_seq (je_var 0)) (show blkC N__law_w_are_pairs (defScope s__law_w_are_pairs) _ _ = true by decide +kernel) (fun _ _ _ _ _ => jg_name 3 sc__law_w_are_pairs.nd rfl (by first | exact Or.inl rfl | exact Or.inr rfl)) (fun _ _ _ _ _ => jts_nil) (fun _ _ _ _ _ => (je_and (je_f D__law_w_is_number hr (ja_cons (je_ix (je_var 3) je_int) (ja_cons (je_var 1) ja_nil))) (je_one (je_f D__law_w_is_word hr (ja_cons (je_var 2) (ja_cons (je_ix (je_var 3) je_int) ja_nil))))))).je')) (je_one (je_f D__law_w_rising hr (ja_cons (je_var 0) ja_nil)))))), fun ds Q hl h => ?_⟩
  obtain ⟨d, st, sg, rfl, hlen, hh, q⟩ := h
  simp [startE, wLc_def, -List.all_eq_true, -List.all_eq_false]
  unfold isPairs at q
  cases e : seqD d with
  | none =>
    rw [e] at q
    simp [isSeq_no e]
    exact q
  | some xs =>
    rw [e] at q
    have q : Q (.bool (xs.all (okPair st sg) && ascD (xs.map told))) := q
    obtain ⟨l1, l2⟩ := lens_at hlen e
    have h1 := ht_seq e
    simp [isSeq_of e, -List.all_eq_true, -List.all_eq_false]
    refine lci_map (fun x => .bool (row x 2)) l1 (fun x hx n1 Q' hQ => ?_) (bools_of ?_)
    · unfold row at hQ
      cases ex : seqD x with
      | none => rw [ex] at hQ; simp [isSeq_no ex]; exact hQ
      | some ys => rw [ex] at hQ; simp [isSeq_of ex, ex]; exact hQ
    rw [all_map_id]
    cases hrow : xs.all (fun x => row x 2) with
    | false =>
      have : xs.all (okPair st sg) = false := by
        rw [List.all_eq_false] at hrow ⊢
        obtain ⟨x, hx, hr⟩ := hrow
        exact ⟨x, hx, by rw [row_pair (by simpa using hr)]; simp⟩
      rw [this] at q
      simpa using q
    | true =>
      simp [-List.all_eq_true, -List.all_eq_false]
      refine lci_map (fun x => .bool (okPair st sg x)) l1 (fun x hx n1 Q' hQ => ?_) (bools_of ?_)
      · obtain ⟨ys, ex, hy⟩ := row_len (List.all_eq_true.mp hrow x hx) (n := 2) rfl
        obtain ⟨a, b, rfl⟩ := len2 hy
        have lb := (lens_at (l2 x hx) ex).2 b (by simp)
        have hQ' : Q' (.bool (below st a && isW (.int sg) b)) n1 := by
          have : okPair st sg x = (below st a && isW (.int sg) b) := by unfold okPair; rw [ex]
          rw [← this]; exact hQ
        have nk : numOk (.int st) a = below st a := by cases a <;> rfl
        simp [ex, nk, lb]
        cases hb : below st a <;> simp [hb] at hQ' ⊢ <;> exact hQ'
      rw [all_map_id]
      cases hall : xs.all (okPair st sg) with
      | false => rw [hall] at q; simpa using q
      | true =>
        rw [hall] at q
        exact ⟨d, xs, rfl, e, hlen, by omega, asc_pairs hall, by simpa using q⟩
def mv1 (st le : Int) (x : PyData) : Bool := match seqD x with
  | some [a, b, c, e] => below st a && below le b
  | _ => false
def mv2 (st sg : Int) (x : PyData) : Bool := match seqD x with
  | some [a, b, c, e] => isW (.int sg) c && below st e
  | _ => false
theorem okMove_12 (st le sg : Int) (x : PyData) : okMove st le sg x = (mv1 st le x && mv2 st sg x) := by
  unfold okMove mv1 mv2
  split
  · rename_i a b c e q
    try rw [q]
    show _ = ((below st a && below le b) && (isW (.int sg) c && below st e))
    cases below st a <;> cases below le b <;> cases isW (.int sg) c <;> cases below st e <;> rfl
  · rename_i h
    first
      | rfl
      | (split
         · rename_i a b c e q; exact absurd q (h a b c e)
         · rfl)
theorem all_and {α : Type} (f g : α → Bool) (xs : List α) : xs.all (fun x => f x && g x) = (xs.all f && xs.all g) := by
  induction xs with
  | nil => rfl
  | cons x xs ih => simp only [List.all_cons, ih]; cases f x <;> cases g x <;> simp
theorem d__law_w_are_moves (bi : ∀ x ∈ BI, mg x = none) (D : DefT K mg "_law_w_are_moves" s__law_w_are_moves ps__law_w_are_moves) (D__law_w_is_number : DefP P w K mg base 1 "_law_w_is_number" 2 S_wnum) (D__law_w_is_word : DefP P w K mg base 2 "_law_w_is_word" 2 S_wword) (D__law_w_rising : DefP P w K mg base 10 "_law_w_rising" 1 S_rising) : DefP P w K mg base 11 "_law_w_are_moves" 4 S_areMoves := by
  refine D.p N__law_w_are_moves sc__law_w_are_moves fun f cdv A outer s H E hr => ⟨_, _, jss_cons (js_if ((jw_or (jt_not (jt_b (je_isi_LT bi (je_var 0)))) (jw_or1 (jt_not (jt_b (je_all (by rfl) (bi _ (by decide)) ((jl_lc [("one", 4)] sc__law_w_are_moves.nd (ji_seq (je_var 0)) (show blkC N__law_w_are_moves (defScope s__law_w_are_moves) _ _ = true by decide +kernel) (fun _ _ _ _ _ => jg_name 4 sc__law_w_are_moves.nd rfl (by first | exact Or.inl rfl | exact Or.inr rfl)) (fun _ _ _ _ _ => jts_nil) (fun _ _ _ _ _ => (je_and (je_isi_LT bi (je_var 4)) (je_one (jc_v (c_eq hr) (je_len (by rfl) (bi _ (by decide)) (je_var 4)) je_int))))).je')))))).jt) (jss_one (js_ret je_bl)) (jss_nil))
      (jss_cons (js_if (jt_not (jt_b (je_all (by rfl) (bi _ (by decide)) ((jl_lc [("one", 4)] sc__law_w_are_moves.nd (ji_seq (je_var 0)) (show blkC N__law_w_are_moves (defScope s__law_w_are_moves) _ _ = true by decide +kernel) (fun _ _ _ _ _ => jg_name 4 sc__law_w_are_moves.nd rfl (by first | exact Or.inl rfl | exact Or.inr rfl)) (fun _ _ _ _ _ => jts_nil) (fun _ _ _ _ _ => (je_and (je_f D__law_w_is_number hr (ja_cons (je_ix (je_var 4) je_int) (ja_cons (je_var 1) ja_nil))) (je_one (je_f D__law_w_is_number hr (ja_cons (je_ix (je_var 4) je_int) (ja_cons (je_var 2) ja_nil))))))).je')))) (jss_one (js_ret je_bl)) (jss_nil))
      (jss_one (js_ret (je_and (je_all (by rfl) (bi _ (by decide)) ((jl_lc [("one", 4)] sc__law_w_are_moves.nd (ji_seq (je_var 0)) (show blkC N__law_w_are_moves (defScope s__law_w_are_moves) _ _ = true by decide +kernel) (fun _ _ _ _ _ => jg_name 4 sc__law_w_are_moves.nd rfl (by first | exact Or.inl rfl | exact Or.inr rfl)) (fun _ _ _ _ _ => jts_nil) (fun _ _ _ _ _ => (je_and (je_f D__law_w_is_word hr (ja_cons (je_var 3) (ja_cons (je_ix (je_var 4) je_int) ja_nil))) (je_one (je_f D__law_w_is_number hr (ja_cons (je_ix (je_var 4) je_int) (ja_cons (je_var 1) ja_nil))))))).je')) (je_one (je_f D__law_w_rising hr (ja_cons (je_var 0) ja_nil))))))), fun ds Q hl h => ?_⟩
  obtain ⟨d, st, le, sg, rfl, hlen, hh, q⟩ := h
  simp [startE, wLc_def, -List.all_eq_true, -List.all_eq_false]
  unfold isMoves at q
  cases e : seqD d with
  | none =>
    rw [e] at q
    simp [isSeq_no e]
    exact q
  | some xs =>
    rw [e] at q
    have q : Q (.bool (xs.all (okMove st le sg) && ascD (xs.map told))) := q
    obtain ⟨l1, l2⟩ := lens_at hlen e
    have h1 := ht_seq e
    have e12 : xs.all (okMove st le sg) = (xs.all (mv1 st le) && xs.all (mv2 st sg)) := by
      rw [← all_and]
      congr 1
      funext x
      exact okMove_12 st le sg x
    simp [isSeq_of e, -List.all_eq_true, -List.all_eq_false]
    refine lci_map (fun x => .bool (row x 4)) l1 (fun x hx n1 Q' hQ => ?_) (bools_of ?_)
    · unfold row at hQ
      cases ex : seqD x with
      | none => rw [ex] at hQ; simp [isSeq_no ex]; exact hQ
      | some ys => rw [ex] at hQ; simp [isSeq_of ex, ex]; exact hQ
    rw [all_map_id]
    cases hrow : xs.all (fun x => row x 4) with
    | false =>
      have : xs.all (okMove st le sg) = false := by
        rw [List.all_eq_false] at hrow ⊢
        obtain ⟨x, hx, hr⟩ := hrow
        exact ⟨x, hx, by rw [row_move (by simpa using hr)]; simp⟩
      rw [this] at q
      simpa using q
    | true =>
      simp [-List.all_eq_true, -List.all_eq_false]
      refine lci_map (fun x => .bool (mv1 st le x)) l1 (fun x hx n1 Q' hQ => ?_) (bools_of ?_)
      · obtain ⟨ys, ex, hy⟩ := row_len (List.all_eq_true.mp hrow x hx) (n := 4) rfl
        obtain ⟨a, b, c, e4, rfl⟩ := len4 hy
        have hQ' : Q' (.bool (below st a && below le b)) n1 := by
          have : mv1 st le x = (below st a && below le b) := by unfold mv1; rw [ex]
          rw [← this]; exact hQ
        have nk : numOk (.int st) a = below st a := by cases a <;> rfl
        have nk2 : numOk (.int le) b = below le b := by cases b <;> rfl
        simp [ex, nk, nk2]
        cases hb : below st a <;> simp [hb] at hQ' ⊢ <;> exact hQ'
      rw [all_map_id]
      cases hall1 : xs.all (mv1 st le) with
      | false => rw [e12, hall1] at q; simpa using q
      | true =>
        simp [-List.all_eq_true, -List.all_eq_false]
        refine lci_map (fun x => .bool (mv2 st sg x)) l1 (fun x hx n1 Q' hQ => ?_) (bools_of ?_)
        · obtain ⟨ys, ex, hy⟩ := row_len (List.all_eq_true.mp hrow x hx) (n := 4) rfl
          obtain ⟨a, b, c, e4, rfl⟩ := len4 hy
          have lb := (lens_at (l2 x hx) ex).2 c (by simp)
          have hQ' : Q' (.bool (isW (.int sg) c && below st e4)) n1 := by
            have : mv2 st sg x = (isW (.int sg) c && below st e4) := by unfold mv2; rw [ex]
            rw [← this]; exact hQ
          have nk : numOk (.int st) e4 = below st e4 := by cases e4 <;> rfl
          simp [ex, nk, lb]
          cases hb : isW (.int sg) c <;> simp [hb] at hQ' ⊢ <;> exact hQ'
        rw [all_map_id]
        cases hall2 : xs.all (mv2 st sg) with
        | false => rw [e12, hall2] at q; simpa using q
        | true =>
          have hall : xs.all (okMove st le sg) = true := by rw [e12, hall1, hall2]; rfl
          rw [hall] at q
          exact ⟨d, xs, rfl, e, hlen, by omega, asc_moves hall, by simpa using q⟩
theorem d__law_w_is_machine (bi : ∀ x ∈ BI, mg x = none) (D : DefT K mg "_law_w_is_machine" s__law_w_is_machine ps__law_w_is_machine) (D__law_w_is_number : DefP P w K mg base 1 "_law_w_is_number" 2 S_wnum) (D__law_w_are_pairs : DefP P w K mg base 11 "_law_w_are_pairs" 3 S_arePairs) (D__law_w_are_moves : DefP P w K mg base 11 "_law_w_are_moves" 4 S_areMoves) : DefP P w K mg base 12 "_law_w_is_machine" 1 S_look := by
  refine D.p N__law_w_is_machine sc__law_w_is_machine fun f cdv A outer s H E hr => ⟨_, _, jss_cons (js_if ((jw_or (jt_not (jt_b (je_isi_LT bi (je_var 0)))) (jw_or (jc_t (c_ne hr) (je_len (by rfl) (bi _ (by decide)) (je_var 0)) je_int) (jw_or1 (jt_not (jt_b (je_all (by rfl) (bi _ (by decide)) ((jl_lc [("one", 1)] sc__law_w_is_machine.nd (ji_seq (je_sl (je_var 0) jo_none (jo_some je_int))) (show blkC N__law_w_is_machine (defScope s__law_w_is_machine) _ _ = true by decide +kernel) (fun _ _ _ _ _ => jg_name 1 sc__law_w_is_machine.nd rfl (by first | exact Or.inl rfl | exact Or.inr rfl)) (fun _ _ _ _ _ => jts_nil) (fun _ _ _ _ _ => (je_and (je_f D__law_w_is_number hr (ja_cons (je_var 1) (ja_cons je_non ja_nil))) (je_one (jc_v c_gt (je_var 1) je_int))))).je'))))))).jt) (jss_one (js_ret je_bl)) (jss_nil))
      (jss_cons (js_if ((jw_or (jt_not (jt_b (je_f D__law_w_are_pairs hr (ja_cons (je_ix (je_var 0) je_int) (ja_cons (je_ix (je_var 0) je_int) (ja_cons (je_ix (je_var 0) je_int) ja_nil)))))) (jw_or1 (jt_not (jt_b (je_f D__law_w_are_pairs hr (ja_cons (je_ix (je_var 0) je_int) (ja_cons (je_ix (je_var 0) je_int) (ja_cons (je_ix (je_var 0) je_int) ja_nil)))))))).jt) (jss_one (js_ret je_bl)) (jss_nil))
      (jss_one (js_ret (je_f D__law_w_are_moves hr (ja_cons (je_ix (je_var 0) je_int) (ja_cons (je_ix (je_var 0) je_int) (ja_cons (je_ix (je_var 0) je_int) (ja_cons (je_ix (je_var 0) je_int) ja_nil)))))))), fun ds Q hl h => ?_⟩
  obtain ⟨d, rfl, hlen, hh, q⟩ := h
  simp [startE, wLc_def, -List.all_eq_true, -List.all_eq_false]
  cases e : seqD d with
  | none =>
    have : lookM d = false := by unfold lookM; rw [e]
    rw [this] at q
    simp [isSeq_no e]
    exact q
  | some xs =>
    simp [isSeq_of e, -List.all_eq_true, -List.all_eq_false]
    by_cases h6 : xs.length = 6
    · obtain ⟨a, b, c, ss, mm, ee, rfl⟩ := len6 h6
      obtain ⟨l1, l2⟩ := lens_at hlen e
      have h1 := ht_seq e
      have m1 := hts_mem (xs := [a, b, c, ss, mm, ee]) ss (by simp)
      have m2 := hts_mem (xs := [a, b, c, ss, mm, ee]) mm (by simp)
      have m3 := hts_mem (xs := [a, b, c, ss, mm, ee]) ee (by simp)
      have s1 := l2 ss (by simp)
      have s2 := l2 mm (by simp)
      have s3 := l2 ee (by simp)
      have q : Q (.bool ((posI a && posI b && posI c) && (isPairs (intOf a) (intOf c) ss && isMoves (intOf a) (intOf b) (intOf c) mm && isPairs (intOf a) (intOf c) ee))) := by
        have : lookM d = ((posI a && posI b && posI c) && (isPairs (intOf a) (intOf c) ss && isMoves (intOf a) (intOf b) (intOf c) mm && isPairs (intOf a) (intOf c) ee)) := by unfold lookM; rw [e]
        rw [← this]; exact q
      simp [-List.all_eq_true, -List.all_eq_false]
      refine lci_map (fun x => .bool (posI x)) (by show 3 ≤ 100000; decide) (fun x hx n1 Q' hQ => ?_) (bools_of ?_)
      · cases x with
        | int i =>
          have hQ' : Q' (.bool (decide (0 < i))) n1 := hQ
          by_cases h0 : 0 ≤ i
          · simp [numOk, h0]; exact hQ'
          · have : decide (0 < i) = false := decide_eq_false (by omega)
            rw [this] at hQ'
            simp [numOk, h0]; exact hQ'
        | _ => simpa [numOk, posI] using hQ
      rw [all_map_id]
      have ea : [a, b, c].all posI = (posI a && posI b && posI c) := by simp [Bool.and_assoc]
      rw [ea]
      cases hall : (posI a && posI b && posI c) with
      | false => rw [hall] at q; simpa using q
      | true =>
        rw [hall] at q
        simp only [Bool.and_eq_true] at hall
        obtain ⟨⟨pa, pb⟩, pc⟩ := hall
        have ia := posI_int pa
        have ib := posI_int pb
        have ic := posI_int pc
        generalize intOf a = i at ia q
        generalize intOf b = j at ib q
        generalize intOf c = k at ic q
        subst ia ib ic
        have t1 : ht ss < 9 := by omega
        have t2 : ht mm < 9 := by omega
        have t3 : ht ee < 9 := by omega
        rw [if_pos rfl]
        simp [s1, s2, s3, t1, t2, t3]
        cases c1 : isPairs i k ss <;> cases c2 : isPairs i k ee <;> cases c3 : isMoves i j k mm <;> simp [c1, c2, c3] at q ⊢ <;> exact q
    · have : lookM d = false := by
        unfold lookM
        rw [e]
        match xs, h6 with
        | [a, b, c, s, m, q], h => exact absurd rfl h
        | [], _ => rfl
        | [_], _ => rfl
        | [_, _], _ => rfl
        | [_, _, _], _ => rfl
        | [_, _, _, _], _ => rfl
        | [_, _, _, _, _], _ => rfl
        | _ :: _ :: _ :: _ :: _ :: _ :: _ :: _, _ => rfl
      rw [this] at q
      exact .inr ⟨by omega, q⟩
end
end MC
namespace MC
open PySem PySem.Spec PyProof.Rows L2 DD
open PySem.W (alike dataLt dataLe AllAlike Sortable EachIs)
open Evl (Ex)
abbrev s__law_w_bent : Stmt := top 39
abbrev N__law_w_bent : List Str := ["stream", "thing", "odds", "at", "way", "middle", "found"]
abbrev ps__law_w_bent : List Str := ["stream", "thing", "odds"]
theorem sc__law_w_bent : FnScope N__law_w_bent ps__law_w_bent (defScope s__law_w_bent) := ⟨rfl, rfl, rfl, by decide +kernel, rfl, by decide +kernel, by decide +kernel⟩
abbrev s__law_w_drawn : Stmt := top 40
abbrev N__law_w_drawn : List Str := ["stream", "way", "machine"]
abbrev ps__law_w_drawn : List Str := ["stream"]
theorem sc__law_w_drawn : FnScope N__law_w_drawn ps__law_w_drawn (defScope s__law_w_drawn) := ⟨rfl, rfl, rfl, by decide +kernel, rfl, by decide +kernel, by decide +kernel⟩
abbrev s_law : Stmt := top 41
abbrev N_law : List Str := ["script", "stream", "odds", "turn", "machine", "things", "at", "parts", "thing", "kept", "due", "found", "k"]
abbrev ps_law : List Str := ["script"]
theorem sc_law : FnScope N_law ps_law (defScope s_law) := ⟨rfl, rfl, rfl, by decide +kernel, rfl, by decide +kernel, by decide +kernel⟩
theorem szs_rev : ∀ xs : List PyData, szs xs.reverse = szs xs
  | [] => rfl
  | x :: xs => by rw [List.reverse_cons, szs_app, szs_rev xs]; simp only [szs]; omega
section
variable {P : Program} {w : World} {K : PySem.W.Frag} {mg : Str → Option Value} {base : Heap}
theorem d__law_w_bent (bi : ∀ x ∈ BI, mg x = none) (D : DefT K mg "_law_w_bent" s__law_w_bent ps__law_w_bent) (D__law_draw : DefZ P w K mg base 1 "_law_draw" 1 S_draw) (D__law_pick : DefZ P w K mg base 2 "_law_pick" 1 S_pick) : ∀ k, DefZ P w K mg base (k + 2) "_law_w_bent" 2 (S_bent k)
  | 0 => ((D.noneZ rfl).mono (Nat.zero_le _)).imp fun ds n Q hl ⟨d, _, _, _, _, _, h, _⟩ => absurd h (Nat.not_lt_zero _)
  | k + 1 => by
    have D__law_w_bent := d__law_w_bent bi D D__law_draw D__law_pick k
    refine D.z N__law_w_bent sc__law_w_bent rfl fun f z cdv A outer s H E hr => ⟨_, _, jss_cut (js_if ((jw_or (jt_not (jt_b (je_isi_LT bi (je_var 1)))) (jw_or (jc_t (c_eq hr) (je_len (by rfl) (bi _ (by decide)) (je_var 1)) je_int) (jw_or1 (jc_t (c_eq hr) (je_z 0 D__law_draw hr (ja_cons je_int ja_nil)) je_int)))).jt) (jss_one (js_ret (je_z 0 D__law_pick hr (ja_cons (je_var 2) ja_nil)))) (jss_nil))
      (jss_cut (js_par2 3 4 sc__law_w_bent.nd rfl rfl ((je_z 0 D__law_draw hr (ja_cons (je_len (by rfl) (bi _ (by decide)) (je_var 1)) ja_nil)).ju) ((je_z 0 D__law_draw hr (ja_cons je_int ja_nil)).ju))
      (jss_cut (js_asg (je_if (jc_t (c_eq hr) (je_var 4) je_int) ((jl_lst ja_nil).je') (je_if (jc_t (c_eq hr) (je_var 4) je_int) ((jl_lst (ja_cons (je_ix (je_var 1) (je_var 3)) (ja_cons (je_ix (je_var 1) (je_var 3)) ja_nil))).je') ((jl_lst (ja_cons (je_z 0 D__law_w_bent hr (ja_cons (je_ix (je_var 1) (je_var 3)) (ja_cons (je_var 2) ja_nil))) ja_nil)).je'))) (jg_name 5 sc__law_w_bent.nd rfl (by first | exact Or.inl rfl | exact Or.inr rfl)))
      (jss_cons (js_asg (je_if (jc_t (c_ne hr) (je_var 4) je_int) ((jl_cat ((jl_cat ((jl_list (by rfl) (bi _ (by decide)) (je_sl (je_var 1) jo_none (jo_some (je_var 3)))).je') (je_var 5)).je') ((jl_list (by rfl) (bi _ (by decide)) (je_sl (je_var 1) (jo_some (je_add (je_var 3) je_int)) jo_none)).je')).je') ((jl_rev ((jl_list (by rfl) (bi _ (by decide)) (je_var 1)).je')).je')) (jg_name 6 sc__law_w_bent.nd rfl (by first | exact Or.inl rfl | exact Or.inr rfl)))
      (jss_one (js_ret (je_if (jc_t (c_eq hr) (je_z 0 D__law_draw hr (ja_cons je_int ja_nil)) je_int) (je_tupOf (by rfl) (bi _ (by decide)) (je_var 6)) (je_var 6))))))), fun ds n Q hl h => ?_⟩
    obtain ⟨d, os, rfl, ho, ht1, hs, hh, hn, q⟩ := h
    obtain ⟨o1, o2, o3⟩ := ho
    have pick : ∀ n1 : Nat, n1 ≤ n + 1 → ∀ x ∈ os, Q x (n1 + 1) := fun n1 h1 x hx => q x _ (o3 x hx).1 (by have := (o3 x hx).2.1; omega) (by have := (o3 x hx).2.2; omega) (by omega)
    simp [startZ, wLc_def]
    refine ⟨fun e => ∃ xs, seqD d = some xs ∧ xs ≠ [] ∧ e = ⟨[S.stm, S.val d, S.val (PyData.list os), S.no, S.no, S.no, S.no], n + 1⟩, ?_, ?_⟩
    · cases e : seqD d with
      | none =>
        simp [isSeq_no e]
        exact ⟨o1, by omega, by omega, pick n (by omega)⟩
      | some xs =>
        simp [isSeq_of e]
        by_cases h0 : xs = []
        · rw [if_pos h0]
          exact ⟨o1, by omega, by omega, pick n (by omega)⟩
        · rw [if_neg h0]
          refine ⟨by omega, fun y y0 y1 => ?_⟩
          by_cases hy : y = 0
          · rw [if_pos hy]
            exact ⟨o1, by omega, by omega, pick (n + 1) (by omega)⟩
          · rw [if_neg hy]; exact h0
    · rintro en' ⟨xs, e, h0, rfl⟩
      have h1 := ht_seq e
      have h2 := sz_seq e
      have h3 := szs_len xs
      rw [tame_seq e, List.all_eq_true] at ht1
      have hlen : 1 ≤ xs.length := by cases xs with
        | nil => exact absurd rfl h0
        | cons _ _ => simp
      refine ⟨fun en => ∃ (a : Nat) (v : Int), a < xs.length ∧ en = ⟨[S.stm, S.val d, S.val (PyData.list os), S.val (.int a), S.val (.int v), S.no, S.no], n + 3⟩, ?_, ?_⟩
      · simp [e]
        refine ⟨by omega, by omega, by omega, fun a a0 a1 => ⟨by omega, fun v v0 v1 => ⟨a.toNat, by omega, by omega⟩⟩⟩
      · rintro en' ⟨a, v, ha, rfl⟩
        obtain ⟨x, hx⟩ : ∃ x, xs[a]? = some x := ⟨_, List.getElem?_eq_getElem ha⟩
        have hxm := List.mem_of_getElem? hx
        have hxt := ht1 x hxm
        have hxs := szs_mem (xs := xs) x hxm
        have hxh := hts_mem (xs := xs) x hxm
        have hat : L2.atI xs (a : Int) = some x := by rw [DD.atI_nat, hx]
        obtain ⟨I, hI⟩ : ∃ I : En → Prop, ∀ en, I en ↔ ∃ (mid : List PyData) (n' : Nat), mid.length ≤ 2 ∧ (∀ y ∈ mid, tame y = true ∧ ht y ≤ ht x + 3) ∧ szs mid ≤ 2 * sz x + 10 ∧ n' ≤ n + 3 + 6 * (ht x + 1) ∧ en = ⟨[S.stm, S.val d, S.val (PyData.list os), S.val (.int a), S.val (.int v), S.val (.list mid), S.no], n'⟩ := ⟨_, fun _ => Iff.rfl⟩
        refine ⟨I, ?_, ?_⟩
        · simp [e, hat]
          by_cases c0 : v = 0
          · rw [if_pos c0]
            exact (hI _).mpr ⟨[], n + 3, by simp, by simp, by simp [szs], by omega, rfl⟩
          · rw [if_neg c0]
            by_cases c1 : v = 1
            · rw [if_pos c1]
              exact (hI _).mpr ⟨[x, x], n + 3, by simp, by simp [hxt], by simp only [szs]; omega, by omega, rfl⟩
            · rw [if_neg c1]
              exact ⟨⟨o1, o2, o3⟩, hxt, by omega, by omega, by omega, fun e' n' b1 b2 b3 b4 => (hI _).mpr ⟨[e'], n', by simp, by simpa using ⟨b1, b3⟩, by simp only [szs]; omega, by omega, rfl⟩⟩
        · intro en' hen
          obtain ⟨mid, n', m1, m2, m3, m4, rfl⟩ := (hI _).mp hen
          have a1 : ((a : Nat) : Int) + 1 = ((a + 1 : Nat) : Int) := by omega
          simp [e]
          rw [a1, cutD_upto, cutD_from]
          have split : xs = xs.take a ++ x :: xs.drop (a + 1) := by
            have := List.take_append_drop a xs
            rw [List.drop_eq_getElem_cons ha] at this
            have hxe : xs[a] = x := by
              have := List.getElem?_eq_getElem ha
              rw [hx] at this
              exact (Option.some.inj this).symm
            rw [hxe] at this
            exact this.symm
          have sz1 : szs xs = szs (xs.take a) + (sz x + szs (xs.drop (a + 1))) := by
            have := congrArg szs split
            rw [szs_app, szs] at this
            exact this
          have sz2 : szs (xs.take a ++ (mid ++ xs.drop (a + 1))) = szs (xs.take a) + (szs mid + szs (xs.drop (a + 1))) := by rw [szs_app, szs_app]
          have tm : (xs.take a ++ (mid ++ xs.drop (a + 1))).all tame = true := by
            rw [List.all_eq_true]
            intro y hy
            rcases List.mem_append.mp hy with hy | hy
            · exact ht1 y (List.mem_of_mem_take hy)
            · rcases List.mem_append.mp hy with hy | hy
              · exact (m2 y hy).1
              · exact ht1 y (List.mem_of_mem_drop hy)
          have htt : hts (xs.take a ++ (mid ++ xs.drop (a + 1))) ≤ hts xs + 3 := hts_of fun y hy => by
            rcases List.mem_append.mp hy with hy | hy
            · have := hts_mem (xs := xs) y (List.mem_of_mem_take hy); omega
            · rcases List.mem_append.mp hy with hy | hy
              · have := (m2 y hy).2; omega
              · have := hts_mem (xs := xs) y (List.mem_of_mem_drop hy); omega
          have szr := szs_rev xs
          have hnp := sz_pos x
          have fin : ∀ ys : List PyData, ys.all tame = true → szs ys ≤ 2 * szs xs + 11 → hts ys ≤ hts xs + 3 → ∀ y : Int, if y = 0 then Q (PyData.tuple ys) (n' + 1) else Q (PyData.list ys) (n' + 1) := fun ys g1 g2 g3 y => by
            by_cases hy : y = 0
            · rw [if_pos hy]; exact q _ _ (by rw [tame_seq (d := .tuple ys) rfl]; exact g1) (by rw [sz_seq (d := .tuple ys) rfl]; omega) (by rw [ht_seq (d := .tuple ys) rfl]; omega) (by omega)
            · rw [if_neg hy]; exact q _ _ (by rw [tame_seq (d := .list ys) rfl]; exact g1) (by rw [sz_seq (d := .list ys) rfl]; omega) (by rw [ht_seq (d := .list ys) rfl]; omega) (by omega)
          by_cases c2 : v = 2
          · refine .inl ⟨c2, by omega, fun y _ _ => fin _ ?_ (by omega) ?_ y⟩
            · rw [List.all_eq_true]; intro y hy; exact ht1 y (List.mem_reverse.mp hy)
            · exact hts_of fun y hy => by have := hts_mem (xs := xs) y (List.mem_reverse.mp hy); omega
          · refine .inr ⟨c2, isSeq_of e, by simp; omega, isSeq_of e, by simp; omega, by omega, fun y _ _ => fin _ tm (by omega) htt y⟩
def S_drawn : ZSp := fun ds n Q => ds = [] ∧ n < 1099300000000 ∧ ∀ m n', IsM 10 600 m → n' ≤ n + 20000000 → Q m n'
@[simp] theorem S_drawn_at (n : Nat) (Q : PyData → Nat → Prop) : S_drawn [] n Q ↔ (n < 1099300000000 ∧ ∀ m n', IsM 10 600 m → n' ≤ n + 20000000 → Q m n') := ⟨fun ⟨_, q⟩ => q, fun q => ⟨rfl, q⟩⟩
theorem d__law_w_drawn (bi : ∀ x ∈ BI, mg x = none) (D : DefT K mg "_law_w_drawn" s__law_w_drawn ps__law_w_drawn) (D__law_draw : DefZ P w K mg base 1 "_law_draw" 1 S_draw) (D__law_machine : DefZ P w K mg base 4 "_law_machine" 4 S_machine) (D__law_single : DefZ P w K mg base 5 "_law_single" 0 S_single) : DefZ P w K mg base 6 "_law_w_drawn" 0 S_drawn := by
  refine D.z N__law_w_drawn sc__law_w_drawn rfl fun f z cdv A outer s H E hr => ⟨_, _, jss_cons (js_asg (je_z 0 D__law_draw hr (ja_cons je_int ja_nil)) (jg_name 1 sc__law_w_drawn.nd rfl (by first | exact Or.inl rfl | exact Or.inr rfl)))
      (jss_cons (js_if (jc_t c_gt (je_var 1) je_int) (jss_one (js_asg (je_z 0 D__law_machine hr (ja_cons (je_add je_int (je_z 0 D__law_draw hr (ja_cons je_int ja_nil))) (ja_cons (je_add je_int (je_z 0 D__law_draw hr (ja_cons je_int ja_nil))) (ja_cons (je_add je_int (je_z 0 D__law_draw hr (ja_cons je_int ja_nil))) (ja_cons (je_z 0 D__law_draw hr (ja_cons je_int ja_nil)) ja_nil))))) (jg_name 2 sc__law_w_drawn.nd rfl (by first | exact Or.inl rfl | exact Or.inr rfl)))) (jss_one (js_asg (je_z 0 D__law_single hr ja_nil) (jg_name 2 sc__law_w_drawn.nd rfl (by first | exact Or.inl rfl | exact Or.inr rfl)))))
      (jss_one (js_ret (je_var 2)))), fun ds n Q hl h => ?_⟩
  obtain ⟨rfl, hn, q⟩ := h
  simp [startZ]
  refine ⟨by omega, fun v v0 v1 => ?_⟩
  by_cases hv : 0 < v
  · rw [if_pos hv]
    refine ⟨by omega, fun a a0 a1 => ⟨by omega, fun b b0 b1 => ⟨by omega, fun c c0 c1 => ⟨by omega, fun m m0 m1 => ⟨by omega, by omega, by omega, by omega, by omega, by omega, m0, by omega, by omega, fun d n' h1 h2 => q _ _ (h1.mono (by omega) (by omega)) (by omega)⟩⟩⟩⟩⟩
  · rw [if_neg hv]
    exact ⟨by omega, fun m n' h1 h2 => q _ _ h1 (by omega)⟩
end
end MC
namespace MC
open PySem PySem.Spec PyProof.Rows L2 DD
open PySem.W (alike dataLt dataLe AllAlike Sortable EachIs)
open Evl (Ex)
section
variable {P : Program} {w : World} {K : PySem.W.Frag} {mg : Str → Option Value} {base : Heap}
def spLaw (K : PySem.W.Frag) : Sp := fun vs H Q _ => ∃ (a : Addr) (ns : List Int), vs = [.ref a] ∧ SqL K H a (ns.map V.int) ∧ ns.length ≤ 63 ∧ ∀ H', Q (.bl true) H'
def spStream (K : PySem.W.Frag) : Sp := fun vs H Q _ => ∃ (a : Addr) (ns : List Int), vs = [.ref a] ∧ SqL K H a (ns.map V.int) ∧ ns.length ≤ 63 ∧ ∀ st sl : Addr, H sl = none → st ≠ sl → Q (.ref st) (L2.upd (L2.upd H sl (.lst (ns.map V.int))) st (.lst [.ref sl, .int 0, .int 0, .int 17]))
theorem ok_stream (bi : ∀ x ∈ BI, mg x = none) {f : Addr} {fd : FuncData} (F : Fun K "_law_stream" "_law_stream" s__law_stream f fd) : FnOk P w K mg base CX0 1 f fd ["script"] (spStream K) := by
  refine F.ok sc__law_stream (fun vs H Q E h => ?_) (fun cdv A outer s H vs Q E hr h => ?_)
  · obtain ⟨a, ns, rfl, _⟩ := h
    rfl
  · obtain ⟨a, ns, rfl, hS, hl, k⟩ := h
    refine ⟨_, pss_one (ps_ret (pe_lst (pa_cons (pe_callTy call_list_of (by rfl) (bi _ (by decide)) (by decide +kernel) (pa_cons (pv 0) pa_nil)) (pa_cons pe_int (pa_cons pe_int (pa_cons pe_int pa_nil)))))), ?_⟩
    refine ⟨_, rfl, a, _, rfl, .inl hS, fun sl hsl => ⟨by show 4 ≤ sizeLine; decide, fun st hst => k st sl hsl fun q => ?_⟩⟩
    rw [q, upd_same] at hst
    cases hst
/-- a thing that the law asks about -/
structure Th (t : PyData) : Prop where
  tm : tame t = true
  sz : MC.sz t ≤ 60000
  ht : MC.ht t ≤ 8
theorem szs_le {xs : List PyData} {c : Nat} (h : ∀ x ∈ xs, sz x ≤ c) : szs xs ≤ xs.length * c := by
  induction xs with
  | nil => simp [szs]
  | cons x xs ih =>
    have h1 := h x (by simp)
    have h2 := ih fun y hy => h y (by simp [hy])
    rw [szs, List.length_cons, Nat.add_mul]; omega
theorem hts_ints (ws : List Int) : hts (ws.map PyData.int) ≤ 0 := hts_of fun d hd => by
  obtain ⟨i, _, rfl⟩ := List.mem_map.mp hd
  simp [ht]
theorem szs_ints (ws : List Int) : szs (ws.map PyData.int) ≤ ws.length := by
  have := szs_le (xs := ws.map PyData.int) (c := 1) fun d hd => by
    obtain ⟨i, _, rfl⟩ := List.mem_map.mp hd
    simp [sz]
  simpa using this
theorem tames_ints (ws : List Int) : tames (ws.map PyData.int) = true := by
  rw [tames_all, List.all_eq_true]
  intro d hd
  obtain ⟨i, _, rfl⟩ := List.mem_map.mp hd
  rfl
theorem pr_th {d : PyData} (h : pr 10 d = true) : tame d = true ∧ sz d ≤ 15 ∧ ht d ≤ 2 := by
  obtain ⟨i, ws, rfl, hw⟩ := pr_of h
  have h1 := hts_ints ws
  have h2 := szs_ints ws
  exact ⟨by simp [tame, tames, tames_ints], by simp [sz, szs]; omega, by simp [ht, hts]; omega⟩
theorem mv_th {d : PyData} (h : mv 10 d = true) : tame d = true ∧ sz d ≤ 15 ∧ ht d ≤ 2 := by
  obtain ⟨i, j, ws, k, rfl, hw⟩ := mv_of h
  have h1 := hts_ints ws
  have h2 := szs_ints ws
  exact ⟨by simp [tame, tames, tames_ints], by simp [sz, szs]; omega, by simp [ht, hts]; omega⟩
/-- rows of a machine -/
def Rw (xs : List PyData) : Prop := xs.all tame = true ∧ hts xs ≤ 2
theorem Rw.rev {xs : List PyData} (h : Rw xs) : Rw xs.reverse := ⟨by rw [List.all_eq_true] at *; exact fun x hx => List.all_eq_true.mp h.1 x (List.mem_reverse.mp hx), hts_of fun x hx => by have := hts_mem (xs := xs) x (List.mem_reverse.mp hx); have := h.2; omega⟩
theorem Rw.app {xs ys : List PyData} (h : Rw xs) (hs : ∀ y ∈ ys, y ∈ xs) : Rw (xs ++ ys) := by
  refine ⟨?_, hts_of fun x hx => ?_⟩
  · rw [List.all_eq_true]
    intro x hx
    rcases List.mem_append.mp hx with q | q
    · exact List.all_eq_true.mp h.1 x q
    · exact List.all_eq_true.mp h.1 x (hs x q)
  · have h2 := h.2
    rcases List.mem_append.mp hx with q | q
    · have := hts_mem (xs := xs) x q; omega
    · have := hts_mem (xs := xs) x (hs x q); omega
theorem th_mk {a b c : Int} {x y z : List PyData} (hx : Rw x) (hy : Rw y) (hz : Rw z) (h : szs x + szs y + szs z ≤ 50000) : Th (.tuple [.int a, .int b, .int c, .list x, .list y, .list z]) := by
  have h1 := hx.2
  have h2 := hy.2
  have h3 := hz.2
  refine ⟨?_, by simp [sz, szs]; omega, by simp [ht, hts]; omega⟩
  simp [tame, tames, tames_all]
  exact ⟨List.all_eq_true.mp hx.1, List.all_eq_true.mp hy.1, List.all_eq_true.mp hz.1⟩
theorem rows_ok {xs : List PyData} (h : ∀ x ∈ xs, tame x = true ∧ sz x ≤ 15 ∧ ht x ≤ 2) (hl : xs.length ≤ 600) : Rw xs ∧ szs xs ≤ 9000 := by
  refine ⟨⟨List.all_eq_true.mpr fun x hx => (h x hx).1, hts_of fun x hx => (h x hx).2.2⟩, ?_⟩
  have := szs_le (c := 15) fun x hx => (h x hx).2.1
  omega
theorem Th.look {t : PyData} (h : Th t) : gd t = true ∧ nd t = true ∧ lenOk t = true := tame_gd _ t (Nat.le_refl _) h.tm (by have := h.sz; omega)
theorem dk_is_machine (bi : ∀ x ∈ BI, mg x = none) (D : DefT K mg "is_machine" s_is_machine ps_is_machine) (D_kept_machine : DefP P w K mg base 6 "kept_machine" 1 S_kept_machine) : DefPK P w K mg base 7 "is_machine" 1 S_is_machine ["thing"] (fun {α} xs => xs) := by
  refine D.pk N_is_machine sc_is_machine ["thing"] (fun {α} xs => xs) (fun kV doc pm an cdv ct ws hl => match ws, hl with | [_], _ => rfl) (fun ws h => h) (fun r => r) (fun r => r) fun f cdv A outer s H E hr => ⟨_, _, jss_one (js_ret (je_notN (je_f D_kept_machine hr (ja_cons (je_var 0) ja_nil)))), fun ds Q hl h => ?_⟩
  obtain ⟨d, rfl, hd, q⟩ := h
  simp [startE, hd]
  exact q
theorem ok_law (bi : ∀ x ∈ BI, mg x = none) {f fs : Addr} {fd fds : FuncData} (F : Fun K "law" "law" s_law f fd) (FS : Fun K "_law_stream" "_law_stream" s__law_stream fs fds) (hms : mg "_law_stream" = some (.ref fs)) (bS : Binds K fds ["script"] [])
    (D__law_w_drawn : DefZ P w K mg base 6 "_law_w_drawn" 0 S_drawn) (D__law_loose : DefZ P w K mg base 12 "_law_loose" 1 (S_loose 11)) (D__law_w_bent : DefZ P w K mg base 12 "_law_w_bent" 2 (S_bent 10)) (D__law_copied : DefP P w K mg base 14 "_law_copied" 1 (S_copied 14)) (D__law_w_is_machine : DefP P w K mg base 12 "_law_w_is_machine" 1 S_look)
    (D__law_same : DefP P w K mg base 15 "_law_same" 2 (S_same 15)) (DK_is_machine : DefPK P w K mg base 7 "is_machine" 1 S_is_machine ["thing"] (fun {α} xs => xs)) : FnOk P w K mg base CX0 17 f fd ["script"] (spLaw K) := by
  have D_is_machine := DK_is_machine.p
  have GS : FnOk P w K mg base CX0 1 fs fds ["script"] (spStream K) := ok_stream bi FS
  refine F.ok sc_law (fun vs H Q E h => ?_) (fun cdv A outer s H vs Q E hr h => ?_)
  · obtain ⟨a, ns, rfl, _⟩ := h
    rfl
  · obtain ⟨a, ns, rfl, hS, hl, k⟩ := h
    have rest : ∃ t wb, (∀ z : Addr × Addr, JSs (some z) (cxOf CX0 P w K mg base N_law "law" (defScope s_law) f cdv A outer s H E).nox ((defBody s_law).drop 1) t wb) ∧ wb { nx := fun _ => False, rt := fun d _ => d = .bool true } ⟨[.no, .stm, .no, .no, .no, .no, .no, .no, .no, .no, .no, .no, .no], 0⟩ := by
      refine ⟨_, _, fun z => jss_cut (js_asg ((jl_lst (ja_cons je_non (ja_cons je_bl (ja_cons je_bl (ja_cons (je_neg je_int) (ja_cons je_int (ja_cons je_int (ja_cons je_int (ja_cons je_int (ja_cons je_str (ja_cons (je_tup ja_nil) (ja_cons ((jl_lst ja_nil).je') (ja_cons je_dict0 (ja_cons (je_tup (ja_cons je_int (ja_cons ((jl_lst ja_nil).je') ja_nil))) (ja_cons (je_tup (ja_cons je_int (ja_cons ((jl_lst (ja_cons je_int ja_nil)).je') ja_nil))) (ja_cons (je_tup (ja_cons je_int (ja_cons je_int (ja_cons ((jl_lst ja_nil).je') (ja_cons je_int ja_nil))))) (ja_cons ((jl_lst (ja_cons je_int ja_nil)).je') ja_nil))))))))))))))))).je') (jg_name 2 sc_law.nd rfl (by first | exact Or.inl rfl | exact Or.inr rfl)))
      (jss_cut (js_for PassesOwn.never (ji_range1 (by rfl) (bi _ (by decide)) je_int) (jg_name 3 sc_law.nd rfl (by first | exact Or.inl rfl | exact Or.inr rfl)) (jss_cut (js_asg (je_z 1 D__law_w_drawn hr ja_nil) (jg_name 4 sc_law.nd rfl (by first | exact Or.inl rfl | exact Or.inr rfl)))
      (jss_cut (js_asgL 5 sc_law.nd rfl (by first | exact Or.inl rfl | exact Or.inr rfl) (jl_lst (ja_cons (je_var 4) (ja_cons (je_z 1 D__law_loose hr (ja_cons (je_var 4) ja_nil)) (ja_cons (je_sl (je_var 4) jo_none (jo_some je_int)) (ja_cons ((jl_cat ((jl_list (by rfl) (bi _ (by decide)) (je_var 4)).je') ((jl_lst (ja_cons ((jl_lst ja_nil).je') ja_nil)).je')).je') ja_nil))))))
      (jss_cut (js_ext 5 ((jl_lc [("k", 12)] sc_law.nd (ji_range1 (by rfl) (bi _ (by decide)) je_int) (show blkC N_law (defScope s_law) _ _ = true by decide +kernel) (fun _ _ _ _ _ => jg_name 12 sc_law.nd rfl (by first | exact Or.inl rfl | exact Or.inr rfl)) (fun _ _ _ _ _ => jts_nil) (fun _ _ _ _ _ => je_z 1 D__law_w_bent hr (ja_cons (je_var 4) (ja_cons (je_var 2) ja_nil)))).je'))
      (jss_cut (js_for PassesOwn.never (ji_seq (je_tup (ja_cons je_int (ja_cons je_int (ja_cons je_int ja_nil))))) (jg_name 6 sc_law.nd rfl (by first | exact Or.inl rfl | exact Or.inr rfl)) (jss_cons (js_asgL 7 sc_law.nd rfl (by first | exact Or.inl rfl | exact Or.inr rfl) (jl_list (by rfl) (bi _ (by decide)) (je_var 4)))
      (jss_cons (js_set 7 ((jl_rev ((jl_list (by rfl) (bi _ (by decide)) (je_ixOwn 7 (je_var 6))).je')).je') (je_var 6))
      (jss_cons (js_app 5 (je_tupOwn 7 (by rfl) (bi _ (by decide))))
      (jss_cons (js_set 7 ((jl_cat ((jl_list (by rfl) (bi _ (by decide)) (je_ix (je_var 4) (je_var 6))).je') ((jl_sl ((jl_list (by rfl) (bi _ (by decide)) (je_ix (je_var 4) (je_var 6))).je') (jo_some (je_neg je_int)) jo_none).je')).je') (je_var 6))
      (jss_one (js_app 5 (je_tupOwn 7 (by rfl) (bi _ (by decide))))))))))
      (jss_frz 5 (jss_one (js_for PassesOwn.never (ji_seq (je_var 5)) (jg_name 8 sc_law.nd rfl (by first | exact Or.inl rfl | exact Or.inr rfl)) (jss_cons (js_asg (je_f D__law_copied hr (ja_cons (je_var 8) ja_nil)) (jg_name 9 sc_law.nd rfl (by first | exact Or.inl rfl | exact Or.inr rfl)))
      (jss_cons (js_asg (je_f D__law_w_is_machine hr (ja_cons (je_var 9) ja_nil)) (jg_name 10 sc_law.nd rfl (by first | exact Or.inl rfl | exact Or.inr rfl)))
      (jss_one (js_if (jt_not (jt_b (je_f D__law_same hr (ja_cons ((jl_lst (ja_cons (je_f D_is_machine hr (ja_cons (je_var 8) ja_nil)) (ja_cons (je_kw DK_is_machine hr (jk_cons (je_z 1 D__law_loose hr (ja_cons (je_var 9) ja_nil)) jk_nil)) (ja_cons (je_var 8) ja_nil)))).je') (ja_cons ((jl_lst (ja_cons (je_var 10) (ja_cons (je_var 10) (ja_cons (je_var 9) ja_nil)))).je') ja_nil))))) (jss_one (js_ret je_bl)) (jss_nil)))))))))))))
      (jss_cons (js_asg ((jl_lst (ja_cons (je_f D_is_machine hr (ja_cons (je_tup (ja_cons je_int (ja_cons je_int (ja_cons je_int (ja_cons ((jl_lst ja_nil).je') (ja_cons ((jl_lst ja_nil).je') (ja_cons ((jl_lst ja_nil).je') ja_nil))))))) ja_nil)) (ja_cons (je_f D_is_machine hr (ja_cons (je_tup (ja_cons je_int (ja_cons je_int (ja_cons je_int (ja_cons ((jl_lst ja_nil).je') (ja_cons ((jl_lst ja_nil).je') (ja_cons ((jl_lst ja_nil).je') ja_nil))))))) ja_nil)) (ja_cons (je_f D_is_machine hr (ja_cons (je_tup (ja_cons je_int (ja_cons je_int (ja_cons je_int (ja_cons ((jl_lst (ja_cons (je_tup (ja_cons je_int (ja_cons ((jl_lst (ja_cons je_int ja_nil)).je') ja_nil))) ja_nil)).je') (ja_cons ((jl_lst ja_nil).je') (ja_cons ((jl_lst ja_nil).je') ja_nil))))))) ja_nil)) ja_nil)))).je') (jg_name 11 sc_law.nd rfl (by first | exact Or.inl rfl | exact Or.inr rfl)))
      (jss_one (js_ret (je_f D__law_same hr (ja_cons (je_var 11) (ja_cons ((jl_lst (ja_cons je_bl (ja_cons je_bl (ja_cons je_bl ja_nil)))).je') ja_nil))))))), ?_⟩
      simp
      obtain ⟨I, hI⟩ : ∃ I : En → Prop, ∀ e, I e ↔ ∃ os, OddOk os ∧ e = ⟨[.no, .stm, .val (.list os), .no, .no, .no, .no, .no, .no, .no, .no, .no, .no], 0⟩ := ⟨_, fun _ => Iff.rfl⟩
      refine ⟨I, (hI _).mpr ⟨_, ⟨by simp, by simp, by decide +kernel⟩, rfl⟩, fun e he => ?_⟩
      obtain ⟨os, hos, rfl⟩ := (hI e).mp he
      clear he hI I
      obtain ⟨I, hI⟩ : ∃ I : En → Prop, ∀ e, I e ↔ e.s.length = 13 := ⟨_, fun _ => Iff.rfl⟩
      refine ⟨I, ?_, fun e he => ?_⟩
      · simp [wFor_def]
        refine ⟨fun k e => ∃ v3 v4 v5 v6 v7 v8 v9 v10 v11 v12 n', e = ⟨[.no, .stm, .val (.list os), v3, v4, v5, v6, v7, v8, v9, v10, v11, v12], n'⟩ ∧ k ≤ 16 ∧ n' ≤ k * 50000000, ⟨_, _, _, _, _, _, _, _, _, _, _, rfl, by omega, by omega⟩, ?_, ?_⟩
        · rintro k d e hk ⟨v3, v4, v5, v6, v7, v8, v9, v10, v11, v12, n', rfl, h1, h2⟩
          have hk1 := (List.getElem?_eq_some_iff.mp hk).1
          simp at hk1
          simp
          obtain ⟨J1, hJ1⟩ : ∃ I : En → Prop, ∀ e, I e ↔ ∃ m n', IsM 10 600 m ∧ n' ≤ k * 50000000 + 20000000 ∧ e = ⟨[.no, .stm, .val (.list os), .val d, .val m, v5, v6, v7, v8, v9, v10, v11, v12], n'⟩ := ⟨_, fun _ => Iff.rfl⟩
          refine ⟨J1, ⟨by omega, fun m n1 hm hn1 => (hJ1 _).mpr ⟨m, n1, hm, by omega, rfl⟩⟩, fun e he => ?_⟩
          obtain ⟨m, n1, hm, hn1, rfl⟩ := (hJ1 e).mp he
          clear he hJ1 J1
          obtain ⟨a, b, c, ss, ms, es, rfl, a1, a2, hs, hms', hes, is, im, ie⟩ := hm.ex
          obtain ⟨rs, zs⟩ := rows_ok (fun x hx => pr_th (is x hx)) hs
          obtain ⟨rm, zm⟩ := rows_ok (fun x hx => mv_th (im x hx)) hms'
          obtain ⟨re, ze⟩ := rows_ok (fun x hx => pr_th (ie x hx)) hes
          have hrs := rs.2
          have hrm := rm.2
          have hre := re.2
          generalize hM : PyData.tuple [.int a, .int b, .int c, .list ss, .list ms, .list es] = M
          have tM : tame M = true := by rw [← hM]; exact (th_mk rs rm re (by omega)).tm
          have sM : sz M ≤ 28000 := by rw [← hM]; simp [sz, szs]; omega
          have hM4 : ht M ≤ 4 := by rw [← hM]; simp [ht, hts]; omega
          have eM : seqD M = some [.int a, .int b, .int c, .list ss, .list ms, .list es] := by rw [← hM]; rfl
          have qM := isSeq_of eM
          have szM := sz_seq eM
          have thM : Th M := ⟨tM, by omega, by omega⟩
          obtain ⟨J2, hJ2⟩ : ∃ I : En → Prop, ∀ e, I e ↔ ∃ ts n', ts.length ≤ 4 ∧ (∀ t ∈ ts, Th t) ∧ n' ≤ k * 50000000 + 20100000 ∧ e = ⟨[.no, .stm, .val (.list os), .val d, .val M, .own ts, v6, v7, v8, v9, v10, v11, v12], n'⟩ := ⟨_, fun _ => Iff.rfl⟩
          refine ⟨J2, ?_, fun e he => ?_⟩
          · simp [eM, qM]
            refine ⟨tM, by omega, by omega, by omega, fun e n2 he hn2 => (hJ2 _).mpr ⟨_, n2, by simp, fun t ht => ?_, by omega, rfl⟩⟩
            simp only [List.mem_cons, List.not_mem_nil, or_false] at ht
            rcases ht with rfl | rfl | rfl | rfl
            · exact thM
            · have := like he
              exact ⟨by rw [this.2.2]; exact tM, by rw [this.2.1]; omega, by rw [this.1]; omega⟩
            · rw [← hM]
              show Th (.tuple (DD.cutD _ none (some 5)))
              rw [cutD_u5]
              show Th (.tuple [.int a, .int b, .int c, .list ss, .list ms])
              have := tM
              rw [← hM] at this
              refine ⟨?_, by simp [sz, szs]; omega, by simp [ht, hts]; omega⟩
              simp [tame, tames] at this ⊢
              exact ⟨this.1, this.2.1⟩
            · refine ⟨?_, by simp [sz, szs]; omega, by simp [ht, hts]; omega⟩
              have := tM
              rw [← hM] at this
              simp [tame, tames] at this ⊢
              exact this
          obtain ⟨ts, n2, ht1, ht2, hn2, rfl⟩ := (hJ2 e).mp he
          clear he hJ2 J2
          obtain ⟨J3, hJ3⟩ : ∃ I : En → Prop, ∀ e, I e ↔ ∃ ts n', ts.length ≤ 11 ∧ (∀ t ∈ ts, Th t) ∧ n' ≤ k * 50000000 + 20200000 ∧ e = ⟨[.no, .stm, .val (.list os), .val d, .val M, .own ts, v6, v7, v8, v9, v10, v11, v12], n'⟩ := ⟨_, fun _ => Iff.rfl⟩
          refine ⟨J3, ?_, fun e he => ?_⟩
          · simp [wLc_def]
            refine lci_pred Th 100 (by simp) (fun j x n3 Q' hj hx hn3 hQ => ?_) fun bs n4 b1 b2 hn4 => ⟨by simp at b1; omega, (hJ3 _).mpr ⟨_, n4, by simp at b1 ⊢; omega, fun t ht => ?_, by simp at hn4; omega, rfl⟩⟩
            · simp at hj
              simp
              exact ⟨hos, tM, by omega, by omega, by omega, fun e n5 g1 g2 g3 g4 => hQ e n5 ⟨g1, by omega, by omega⟩ (by omega)⟩
            · rcases List.mem_append.mp ht with q | q
              · exact ht2 t q
              · exact b2 t q
          obtain ⟨ts, n3, ht1, ht2, hn3, rfl⟩ := (hJ3 e).mp he
          clear he hJ3 J3
          obtain ⟨J4, hJ4⟩ : ∃ I : En → Prop, ∀ e, I e ↔ ∃ ts v6 v7 n', ts.length ≤ 20 ∧ (∀ t ∈ ts, Th t) ∧ n' ≤ k * 50000000 + 20200000 ∧ e = ⟨[.no, .stm, .val (.list os), .val d, .val M, .own ts, v6, v7, v8, v9, v10, v11, v12], n'⟩ := ⟨_, fun _ => Iff.rfl⟩
          refine ⟨J4, ?_, fun e he => ?_⟩
          · simp [wFor_def]
            have tup : ∀ x y z : List PyData, Rw x → Rw y → Rw z → szs x + szs y + szs z ≤ 50000 → Th (.tuple [.int a, .int b, .int c, .list x, .list y, .list z]) := fun x y z h1 h2 h3 h4 => th_mk h1 h2 h3 h4
            have dbl : ∀ x : List PyData, Rw x → szs x ≤ 9000 → Rw (x ++ DD.cutD x (some (-1)) none) ∧ szs (x ++ DD.cutD x (some (-1)) none) ≤ 18000 := fun x h1 h2 => by
              have hc := cutD_sub (xs := x) (a := some (-1)) (b := none)
              refine ⟨h1.app hc.2, ?_⟩
              rw [szs_app]
              have : szs (DD.cutD x (some (-1)) none) ≤ szs x := by
                unfold DD.cutD
                generalize HT.sIx x.length 0 (some (-1)) = p
                generalize HT.sIx x.length x.length none - p = r
                have e1 := szs_app (x.take p) (x.drop p)
                rw [List.take_append_drop] at e1
                have e2 := szs_app ((x.drop p).take r) ((x.drop p).drop r)
                rw [List.take_append_drop] at e2
                omega
              omega
            obtain ⟨ds, dss⟩ := dbl ss rs zs
            obtain ⟨dm, dms⟩ := dbl ms rm zm
            obtain ⟨de, des⟩ := dbl es re ze
            have rv1 := szs_rev ss
            have rv2 := szs_rev ms
            have rv3 := szs_rev es
            refine ⟨fun j e => ∃ ts v6 v7, ts.length ≤ 11 + 2 * j ∧ (∀ t ∈ ts, Th t) ∧ e = ⟨[.no, .stm, .val (.list os), .val d, .val M, .own ts, v6, v7, v8, v9, v10, v11, v12], n3⟩, ⟨ts, _, _, by omega, ht2, rfl⟩, ?_, ?_⟩
            · rintro j x e hj ⟨ts, v6, v7, g1, g2, rfl⟩
              have app : ∀ p q : PyData, Th p → Th q → ∀ t ∈ ts ++ [p, q], Th t := fun p q hp hq t ht => by
                rcases List.mem_append.mp ht with h | h
                · exact g2 t h
                · simp only [List.mem_cons, List.not_mem_nil, or_false] at h
                  rcases h with rfl | rfl
                  · exact hp
                  · exact hq
              have hj1 := (List.getElem?_eq_some_iff.mp hj).1
              simp at hj1
              have hj3 : j = 0 ∨ j = 1 ∨ j = 2 := by omega
              rcases hj3 with rfl | rfl | rfl
              · cases hj
                simp [eM]
                refine ⟨3, rfl, by omega, by have := (cutD_sub (xs := ss) (a := some (-1)) (b := none)).1; omega, 3, rfl, by omega, by omega, fun t ht => ?_⟩
                rcases ht with (ht | rfl) | rfl
                · exact g2 t ht
                · exact tup _ _ _ rs.rev rm re (by omega)
                · exact tup _ _ _ ds rm re (by omega)
              · cases hj
                simp [eM]
                refine ⟨4, rfl, by omega, by have := (cutD_sub (xs := ms) (a := some (-1)) (b := none)).1; omega, 4, rfl, by omega, by omega, fun t ht => ?_⟩
                rcases ht with (ht | rfl) | rfl
                · exact g2 t ht
                · exact tup _ _ _ rs rm.rev re (by omega)
                · exact tup _ _ _ rs dm re (by omega)
              · cases hj
                simp [eM]
                refine ⟨5, rfl, by omega, by have := (cutD_sub (xs := es) (a := some (-1)) (b := none)).1; omega, 5, rfl, by omega, by omega, fun t ht => ?_⟩
                rcases ht with (ht | rfl) | rfl
                · exact g2 t ht
                · exact tup _ _ _ rs rm re.rev (by omega)
                · exact tup _ _ _ rs rm de (by omega)
            · rintro e ⟨ts, v6, v7, g1, g2, rfl⟩
              exact (hJ4 _).mpr ⟨ts, _, _, n3, by simp at g1; omega, g2, hn3, rfl⟩
          obtain ⟨ts, v6, v7, n4, ht1, ht2, hn4, rfl⟩ := (hJ4 e).mp he
          clear he hJ4 J4
          simp [wFor_def]
          refine ⟨fun j e => ∃ v8 v9 v10 n', e = ⟨[.no, .stm, .val (.list os), .val d, .val M, .val (.list ts), v6, v7, v8, v9, v10, v11, v12], n'⟩ ∧ j ≤ ts.length ∧ n' ≤ k * 50000000 + 20200000 + j * 100000, ⟨_, _, _, _, rfl, by omega, by omega⟩, ?_, ?_⟩
          · rintro j t e hj ⟨v8, v9, v10, n', rfl, g1, g2⟩
            have hj1 := (List.getElem?_eq_some_iff.mp hj).1
            have th := ht2 t (List.mem_of_getElem? hj)
            obtain ⟨gg, nn, ll⟩ := th.look
            have th1 := th.sz
            have th2 := th.ht
            have kt : ∀ e : PyData, told e = told t → noneD (keptM e) = !lookM t := fun e he => by rw [← look_same he, ← look_kept, Bool.not_not]
            simp
            refine ⟨gg, nn, by omega, ll, by omega, ll, th.tm, by omega, by omega, by omega, fun e n5 he hn5 => ?_⟩
            have lk := like he
            have eT : tame e = true := by rw [lk.2.2]; exact th.tm
            refine ⟨(tame_gd _ e (Nat.le_refl _) eT (by omega)).2.2, ⟨kt t rfl, kt e he⟩, by simp [gd, gds, gg], by simp [ht, hts]; omega, _, _, _, _, ⟨⟨rfl, rfl, rfl⟩, rfl⟩, by omega, by omega⟩
          · rintro e ⟨v8, v9, v10, n', rfl, g1, g2⟩
            exact ⟨_, _, _, _, _, _, _, _, _, _, _, rfl, by omega, by omega⟩
        · rintro e ⟨v3, v4, v5, v6, v7, v8, v9, v10, v11, v12, n', rfl, h1, h2⟩
          exact (hI _).mpr rfl
      · have hl := (hI e).mp he
        have l1 : lookM (.tuple [.int 1, .int 1, .int 1, .list [], .list [], .list []]) = true := by decide
        have l2 : lookM (.tuple [.int 0, .int 1, .int 1, .list [], .list [], .list []]) = false := by decide
        have l3 : lookM (.tuple [.int 1, .int 1, .int 1, .list [.tuple [.int 0, .list [.int 1]]], .list [], .list []]) = false := by decide
        simp only [look_kept, l1, l2, l3]
        refine ⟨by decide, by decide, by decide, .list [.bool true, .bool false, .bool false], ?_, rfl, by decide, by decide⟩
        rw [List.getElem?_set_self (by rw [hl]; decide)]
    obtain ⟨t, wb, J, hwb⟩ := rest
    refine ⟨_, pss_cons (ps_set (i := 1) sc_law.nd rfl (by first | exact Or.inl rfl | exact Or.inr rfl) (pe_call GS (hr.mono (by decide)) (by rfl) hms FS.kp bS .nil pass0 (pa_cons (pv 0) pa_nil))) (J (0, 0)).ps, ?_⟩
    refine ⟨_, rfl, a, ns, rfl, hS, hl, fun st sl hsl hne => ?_⟩
    have sit : Sit (some (st, sl)) (L2.upd (L2.upd H sl (.lst (ns.map V.int))) st (.lst [.ref sl, .int 0, .int 0, .int 17])) ((L2.start N_law [V.ref a]).set 1 (some (.ref st))) (L2.upd (L2.upd H sl (.lst (ns.map V.int))) st (.lst [.ref sl, .int 0, .int 0, .int 17])) (fun _ => none) ⟨[.no, .stm, .no, .no, .no, .no, .no, .no, .no, .no, .no, .no, .no], 0⟩ := {
      sub := fun b o e => by cases e
      stm := ⟨ns, 0, 0, 17, upd_same, by rw [upd_ne (Ne.symm hne)]; exact upd_same, by decide, by decide, by decide, by decide, by decide, Ne.symm hne⟩
      off := fun _ _ => rfl
      len := rfl
      slot := fun i x h => by
        match i, h with
        | 0, h => cases h; exact ⟨_, rfl, trivial⟩
        | 1, h => cases h; exact ⟨_, rfl, st, sl, rfl, rfl⟩
        | 2, h => cases h; exact ⟨_, rfl, trivial⟩
        | 3, h => cases h; exact ⟨_, rfl, trivial⟩
        | 4, h => cases h; exact ⟨_, rfl, trivial⟩
        | 5, h => cases h; exact ⟨_, rfl, trivial⟩
        | 6, h => cases h; exact ⟨_, rfl, trivial⟩
        | 7, h => cases h; exact ⟨_, rfl, trivial⟩
        | 8, h => cases h; exact ⟨_, rfl, trivial⟩
        | 9, h => cases h; exact ⟨_, rfl, trivial⟩
        | 10, h => cases h; exact ⟨_, rfl, trivial⟩
        | 11, h => cases h; exact ⟨_, rfl, trivial⟩
        | 12, h => cases h; exact ⟨_, rfl, trivial⟩
        | n + 13, h => cases h
      sep := fun i j x y l hij h1 h2 o1 o2 => by
        have := List.mem_of_getElem? h1
        simp at this
        rcases this with rfl | rfl | rfl <;> exact absurd o1 Bool.false_ne_true }
    exact (J (st, sl)).de _ _ _ _ _ _ _ _ sit (Grow.refl sit.sub) hwb ⟨fun _ _ _ _ _ _ q => q.elim, fun v H' F' d n g _ r q => by subst q; cases r; exact k H', fun _ _ _ _ _ _ q => q.elim, fun _ _ _ _ _ _ q => q.elim⟩
end
end MC
namespace MC
open PySem PySem.Spec PyProof.Rows L2 DD
open PySem.W (alike dataLt dataLe AllAlike Sortable EachIs)
section
theorem all_mk {l : PySem.W.OpenLaw} {w : World} {K : PySem.W.Frag} {h : Heap} {mg : Str → Option Value} {fa f0 f1 f2 f3 f4 f5 f6 f7 f8 f9 f10 f11 f12 f13 f14 f15 f16 f17 f18 f19 f20 f21 f22 f23 f24 f25 f26 f27 f28 f29 f30 f31 f32 f33 f34 f35 f36 f37 : Addr} (X : K.In h) (G : h.Ns mainGlobals mg) (hfa : mg "law" = some (.ref fa))
    {od0 an0 : Option Addr} {sl0 : Array (Option Value)} {oc0 kV0 dc0 pm0 cd0 ct0 : Value}
    {od1 an1 : Option Addr} {sl1 : Array (Option Value)} {oc1 kV1 dc1 pm1 cd1 ct1 : Value}
    {od2 an2 : Option Addr} {sl2 : Array (Option Value)} {oc2 kV2 dc2 pm2 cd2 ct2 : Value}
    {od3 an3 : Option Addr} {sl3 : Array (Option Value)} {oc3 kV3 dc3 pm3 cd3 ct3 : Value}
    {od4 an4 : Option Addr} {sl4 : Array (Option Value)} {oc4 kV4 dc4 pm4 cd4 ct4 : Value}
    {od5 an5 : Option Addr} {sl5 : Array (Option Value)} {oc5 kV5 dc5 pm5 cd5 ct5 : Value}
    {od6 an6 : Option Addr} {sl6 : Array (Option Value)} {oc6 kV6 dc6 pm6 cd6 ct6 : Value}
    {od7 an7 : Option Addr} {sl7 : Array (Option Value)} {oc7 kV7 dc7 pm7 cd7 ct7 : Value}
    {od8 an8 : Option Addr} {sl8 : Array (Option Value)} {oc8 kV8 dc8 pm8 cd8 ct8 : Value}
    {od9 an9 : Option Addr} {sl9 : Array (Option Value)} {oc9 kV9 dc9 pm9 cd9 ct9 : Value}
    {od10 an10 : Option Addr} {sl10 : Array (Option Value)} {oc10 kV10 dc10 pm10 cd10 ct10 : Value}
    {od11 an11 : Option Addr} {sl11 : Array (Option Value)} {oc11 kV11 dc11 pm11 cd11 ct11 : Value}
    {od12 an12 : Option Addr} {sl12 : Array (Option Value)} {oc12 kV12 dc12 pm12 cd12 ct12 : Value}
    {od13 an13 : Option Addr} {sl13 : Array (Option Value)} {oc13 kV13 dc13 pm13 cd13 ct13 : Value}
    {od14 an14 : Option Addr} {sl14 : Array (Option Value)} {oc14 kV14 dc14 pm14 cd14 ct14 : Value}
    {od15 an15 : Option Addr} {sl15 : Array (Option Value)} {oc15 kV15 dc15 pm15 cd15 ct15 : Value}
    {od16 an16 : Option Addr} {sl16 : Array (Option Value)} {oc16 kV16 dc16 pm16 cd16 ct16 : Value}
    {od17 an17 : Option Addr} {sl17 : Array (Option Value)} {oc17 kV17 dc17 pm17 cd17 ct17 : Value}
    {od18 an18 : Option Addr} {sl18 : Array (Option Value)} {oc18 kV18 dc18 pm18 cd18 ct18 : Value}
    {od19 an19 : Option Addr} {sl19 : Array (Option Value)} {oc19 kV19 dc19 pm19 cd19 ct19 : Value}
    {od20 an20 : Option Addr} {sl20 : Array (Option Value)} {oc20 kV20 dc20 pm20 cd20 ct20 : Value}
    {od21 an21 : Option Addr} {sl21 : Array (Option Value)} {oc21 kV21 dc21 pm21 cd21 ct21 : Value}
    {od22 an22 : Option Addr} {sl22 : Array (Option Value)} {oc22 kV22 dc22 pm22 cd22 ct22 : Value}
    {od23 an23 : Option Addr} {sl23 : Array (Option Value)} {oc23 kV23 dc23 pm23 cd23 ct23 : Value}
    {od24 an24 : Option Addr} {sl24 : Array (Option Value)} {oc24 kV24 dc24 pm24 cd24 ct24 : Value}
    {od25 an25 : Option Addr} {sl25 : Array (Option Value)} {oc25 kV25 dc25 pm25 cd25 ct25 : Value}
    {od26 an26 : Option Addr} {sl26 : Array (Option Value)} {oc26 kV26 dc26 pm26 cd26 ct26 : Value}
    {od27 an27 : Option Addr} {sl27 : Array (Option Value)} {oc27 kV27 dc27 pm27 cd27 ct27 : Value}
    {od28 an28 : Option Addr} {sl28 : Array (Option Value)} {oc28 kV28 dc28 pm28 cd28 ct28 : Value}
    {od29 an29 : Option Addr} {sl29 : Array (Option Value)} {oc29 kV29 dc29 pm29 cd29 ct29 : Value}
    {od30 an30 : Option Addr} {sl30 : Array (Option Value)} {oc30 kV30 dc30 pm30 cd30 ct30 : Value}
    {od31 an31 : Option Addr} {sl31 : Array (Option Value)} {oc31 kV31 dc31 pm31 cd31 ct31 : Value}
    {od32 an32 : Option Addr} {sl32 : Array (Option Value)} {oc32 kV32 dc32 pm32 cd32 ct32 : Value}
    {od33 an33 : Option Addr} {sl33 : Array (Option Value)} {oc33 kV33 dc33 pm33 cd33 ct33 : Value}
    {od34 an34 : Option Addr} {sl34 : Array (Option Value)} {oc34 kV34 dc34 pm34 cd34 ct34 : Value}
    {od35 an35 : Option Addr} {sl35 : Array (Option Value)} {oc35 kV35 dc35 pm35 cd35 ct35 : Value}
    {od36 an36 : Option Addr} {sl36 : Array (Option Value)} {oc36 kV36 dc36 pm36 cd36 ct36 : Value}
    {od37 an37 : Option Addr} {sl37 : Array (Option Value)} {oc37 kV37 dc37 pm37 cd37 ct37 : Value}
    (a0 : PySem.W.nsIn K mainGlobals "is_list" = some (some (.ref f0))) (l0 : K.lookup f0 = some ⟨oc0, od0, .func (PySem.W.fnOf "is_list" "is_list" (defArgs s_is_list) (defBody s_is_list) (defScope s_is_list) .none kV0 dc0 pm0 an0 cd0 ct0), sl0⟩) (c0 : PySem.W.codeIn K cd0 "is_list" = true) (k0 : PySem.W.keepIn K (.ref f0) = true)
    (a1 : PySem.W.nsIn K mainGlobals "is_whole" = some (some (.ref f1))) (l1 : K.lookup f1 = some ⟨oc1, od1, .func (PySem.W.fnOf "is_whole" "is_whole" (defArgs s_is_whole) (defBody s_is_whole) (defScope s_is_whole) .none kV1 dc1 pm1 an1 cd1 ct1), sl1⟩) (c1 : PySem.W.codeIn K cd1 "is_whole" = true) (k1 : PySem.W.keepIn K (.ref f1) = true)
    (a2 : PySem.W.nsIn K mainGlobals "is_number" = some (some (.ref f2))) (l2 : K.lookup f2 = some ⟨oc2, od2, .func (PySem.W.fnOf "is_number" "is_number" (defArgs s_is_number) (defBody s_is_number) (defScope s_is_number) .none kV2 dc2 pm2 an2 cd2 ct2), sl2⟩) (c2 : PySem.W.codeIn K cd2 "is_number" = true) (k2 : PySem.W.keepIn K (.ref f2) = true)
    (a3 : PySem.W.nsIn K mainGlobals "is_below" = some (some (.ref f3))) (l3 : K.lookup f3 = some ⟨oc3, od3, .func (PySem.W.fnOf "is_below" "is_below" (defArgs s_is_below) (defBody s_is_below) (defScope s_is_below) .none kV3 dc3 pm3 an3 cd3 ct3), sl3⟩) (c3 : PySem.W.codeIn K cd3 "is_below" = true) (k3 : PySem.W.keepIn K (.ref f3) = true)
    (a4 : PySem.W.nsIn K mainGlobals "is_row" = some (some (.ref f4))) (l4 : K.lookup f4 = some ⟨oc4, od4, .func (PySem.W.fnOf "is_row" "is_row" (defArgs s_is_row) (defBody s_is_row) (defScope s_is_row) .none kV4 dc4 pm4 an4 cd4 ct4), sl4⟩) (c4 : PySem.W.codeIn K cd4 "is_row" = true) (k4 : PySem.W.keepIn K (.ref f4) = true)
    (a5 : PySem.W.nsIn K mainGlobals "is_ascending" = some (some (.ref f5))) (l5 : K.lookup f5 = some ⟨oc5, od5, .func (PySem.W.fnOf "is_ascending" "is_ascending" (defArgs s_is_ascending) (defBody s_is_ascending) (defScope s_is_ascending) .none kV5 dc5 pm5 an5 cd5 ct5), sl5⟩) (c5 : PySem.W.codeIn K cd5 "is_ascending" = true) (k5 : PySem.W.keepIn K (.ref f5) = true)
    (a6 : PySem.W.nsIn K mainGlobals "kept_word" = some (some (.ref f6))) (l6 : K.lookup f6 = some ⟨oc6, od6, .func (PySem.W.fnOf "kept_word" "kept_word" (defArgs s_kept_word) (defBody s_kept_word) (defScope s_kept_word) .none kV6 dc6 pm6 an6 cd6 ct6), sl6⟩) (c6 : PySem.W.codeIn K cd6 "kept_word" = true) (k6 : PySem.W.keepIn K (.ref f6) = true)
    (a7 : PySem.W.nsIn K mainGlobals "kept_pair" = some (some (.ref f7))) (l7 : K.lookup f7 = some ⟨oc7, od7, .func (PySem.W.fnOf "kept_pair" "kept_pair" (defArgs s_kept_pair) (defBody s_kept_pair) (defScope s_kept_pair) .none kV7 dc7 pm7 an7 cd7 ct7), sl7⟩) (c7 : PySem.W.codeIn K cd7 "kept_pair" = true) (k7 : PySem.W.keepIn K (.ref f7) = true)
    (a8 : PySem.W.nsIn K mainGlobals "kept_move" = some (some (.ref f8))) (l8 : K.lookup f8 = some ⟨oc8, od8, .func (PySem.W.fnOf "kept_move" "kept_move" (defArgs s_kept_move) (defBody s_kept_move) (defScope s_kept_move) .none kV8 dc8 pm8 an8 cd8 ct8), sl8⟩) (c8 : PySem.W.codeIn K cd8 "kept_move" = true) (k8 : PySem.W.keepIn K (.ref f8) = true)
    (a9 : PySem.W.nsIn K mainGlobals "kept_all" = some (some (.ref f9))) (l9 : K.lookup f9 = some ⟨oc9, od9, .func (PySem.W.fnOf "kept_all" "kept_all" (defArgs s_kept_all) (defBody s_kept_all) (defScope s_kept_all) .none kV9 dc9 pm9 an9 cd9 ct9), sl9⟩) (c9 : PySem.W.codeIn K cd9 "kept_all" = true) (k9 : PySem.W.keepIn K (.ref f9) = true)
    (a10 : PySem.W.nsIn K mainGlobals "kept_machine" = some (some (.ref f10))) (l10 : K.lookup f10 = some ⟨oc10, od10, .func (PySem.W.fnOf "kept_machine" "kept_machine" (defArgs s_kept_machine) (defBody s_kept_machine) (defScope s_kept_machine) .none kV10 dc10 pm10 an10 cd10 ct10), sl10⟩) (c10 : PySem.W.codeIn K cd10 "kept_machine" = true) (k10 : PySem.W.keepIn K (.ref f10) = true)
    (a11 : PySem.W.nsIn K mainGlobals "is_machine" = some (some (.ref f11))) (l11 : K.lookup f11 = some ⟨oc11, od11, .func (PySem.W.fnOf "is_machine" "is_machine" (defArgs s_is_machine) (defBody s_is_machine) (defScope s_is_machine) .none kV11 dc11 pm11 an11 cd11 ct11), sl11⟩) (c11 : PySem.W.codeIn K cd11 "is_machine" = true) (k11 : PySem.W.keepIn K (.ref f11) = true)
    (a12 : PySem.W.nsIn K mainGlobals "_law_stream" = some (some (.ref f12))) (l12 : K.lookup f12 = some ⟨oc12, od12, .func (PySem.W.fnOf "_law_stream" "_law_stream" (defArgs s__law_stream) (defBody s__law_stream) (defScope s__law_stream) .none kV12 dc12 pm12 an12 cd12 ct12), sl12⟩) (c12 : PySem.W.codeIn K cd12 "_law_stream" = true) (k12 : PySem.W.keepIn K (.ref f12) = true)
    (a13 : PySem.W.nsIn K mainGlobals "_law_draw" = some (some (.ref f13))) (l13 : K.lookup f13 = some ⟨oc13, od13, .func (PySem.W.fnOf "_law_draw" "_law_draw" (defArgs s__law_draw) (defBody s__law_draw) (defScope s__law_draw) .none kV13 dc13 pm13 an13 cd13 ct13), sl13⟩) (c13 : PySem.W.codeIn K cd13 "_law_draw" = true) (k13 : PySem.W.keepIn K (.ref f13) = true)
    (a14 : PySem.W.nsIn K mainGlobals "_law_pick" = some (some (.ref f14))) (l14 : K.lookup f14 = some ⟨oc14, od14, .func (PySem.W.fnOf "_law_pick" "_law_pick" (defArgs s__law_pick) (defBody s__law_pick) (defScope s__law_pick) .none kV14 dc14 pm14 an14 cd14 ct14), sl14⟩) (c14 : PySem.W.codeIn K cd14 "_law_pick" = true) (k14 : PySem.W.keepIn K (.ref f14) = true)
    (a15 : PySem.W.nsIn K mainGlobals "_law_same" = some (some (.ref f15))) (l15 : K.lookup f15 = some ⟨oc15, od15, .func (PySem.W.fnOf "_law_same" "_law_same" (defArgs s__law_same) (defBody s__law_same) (defScope s__law_same) .none kV15 dc15 pm15 an15 cd15 ct15), sl15⟩) (c15 : PySem.W.codeIn K cd15 "_law_same" = true) (k15 : PySem.W.keepIn K (.ref f15) = true)
    (a16 : PySem.W.nsIn K mainGlobals "_law_copied" = some (some (.ref f16))) (l16 : K.lookup f16 = some ⟨oc16, od16, .func (PySem.W.fnOf "_law_copied" "_law_copied" (defArgs s__law_copied) (defBody s__law_copied) (defScope s__law_copied) .none kV16 dc16 pm16 an16 cd16 ct16), sl16⟩) (c16 : PySem.W.codeIn K cd16 "_law_copied" = true) (k16 : PySem.W.keepIn K (.ref f16) = true)
    (a17 : PySem.W.nsIn K mainGlobals "_law_loose" = some (some (.ref f17))) (l17 : K.lookup f17 = some ⟨oc17, od17, .func (PySem.W.fnOf "_law_loose" "_law_loose" (defArgs s__law_loose) (defBody s__law_loose) (defScope s__law_loose) .none kV17 dc17 pm17 an17 cd17 ct17), sl17⟩) (c17 : PySem.W.codeIn K cd17 "_law_loose" = true) (k17 : PySem.W.keepIn K (.ref f17) = true)
    (a18 : PySem.W.nsIn K mainGlobals "_law_said" = some (some (.ref f18))) (l18 : K.lookup f18 = some ⟨oc18, od18, .func (PySem.W.fnOf "_law_said" "_law_said" (defArgs s__law_said) (defBody s__law_said) (defScope s__law_said) .none kV18 dc18 pm18 an18 cd18 ct18), sl18⟩) (c18 : PySem.W.codeIn K cd18 "_law_said" = true) (k18 : PySem.W.keepIn K (.ref f18) = true)
    (a19 : PySem.W.nsIn K mainGlobals "_law_unlike" = some (some (.ref f19))) (l19 : K.lookup f19 = some ⟨oc19, od19, .func (PySem.W.fnOf "_law_unlike" "_law_unlike" (defArgs s__law_unlike) (defBody s__law_unlike) (defScope s__law_unlike) .none kV19 dc19 pm19 an19 cd19 ct19), sl19⟩) (c19 : PySem.W.codeIn K cd19 "_law_unlike" = true) (k19 : PySem.W.keepIn K (.ref f19) = true)
    (a20 : PySem.W.nsIn K mainGlobals "_law_machine" = some (some (.ref f20))) (l20 : K.lookup f20 = some ⟨oc20, od20, .func (PySem.W.fnOf "_law_machine" "_law_machine" (defArgs s__law_machine) (defBody s__law_machine) (defScope s__law_machine) .none kV20 dc20 pm20 an20 cd20 ct20), sl20⟩) (c20 : PySem.W.codeIn K cd20 "_law_machine" = true) (k20 : PySem.W.keepIn K (.ref f20) = true)
    (a21 : PySem.W.nsIn K mainGlobals "_law_reader" = some (some (.ref f21))) (l21 : K.lookup f21 = some ⟨oc21, od21, .func (PySem.W.fnOf "_law_reader" "_law_reader" (defArgs s__law_reader) (defBody s__law_reader) (defScope s__law_reader) .none kV21 dc21 pm21 an21 cd21 ct21), sl21⟩) (c21 : PySem.W.codeIn K cd21 "_law_reader" = true) (k21 : PySem.W.keepIn K (.ref f21) = true)
    (a22 : PySem.W.nsIn K mainGlobals "_law_as_machine" = some (some (.ref f22))) (l22 : K.lookup f22 = some ⟨oc22, od22, .func (PySem.W.fnOf "_law_as_machine" "_law_as_machine" (defArgs s__law_as_machine) (defBody s__law_as_machine) (defScope s__law_as_machine) .none kV22 dc22 pm22 an22 cd22 ct22), sl22⟩) (c22 : PySem.W.codeIn K cd22 "_law_as_machine" = true) (k22 : PySem.W.keepIn K (.ref f22) = true)
    (a23 : PySem.W.nsIn K mainGlobals "_law_mirrored" = some (some (.ref f23))) (l23 : K.lookup f23 = some ⟨oc23, od23, .func (PySem.W.fnOf "_law_mirrored" "_law_mirrored" (defArgs s__law_mirrored) (defBody s__law_mirrored) (defScope s__law_mirrored) .none kV23 dc23 pm23 an23 cd23 ct23), sl23⟩) (c23 : PySem.W.codeIn K cd23 "_law_mirrored" = true) (k23 : PySem.W.keepIn K (.ref f23) = true)
    (a24 : PySem.W.nsIn K mainGlobals "_law_split" = some (some (.ref f24))) (l24 : K.lookup f24 = some ⟨oc24, od24, .func (PySem.W.fnOf "_law_split" "_law_split" (defArgs s__law_split) (defBody s__law_split) (defScope s__law_split) .none kV24 dc24 pm24 an24 cd24 ct24), sl24⟩) (c24 : PySem.W.codeIn K cd24 "_law_split" = true) (k24 : PySem.W.keepIn K (.ref f24) = true)
    (a25 : PySem.W.nsIn K mainGlobals "_law_pushed" = some (some (.ref f25))) (l25 : K.lookup f25 = some ⟨oc25, od25, .func (PySem.W.fnOf "_law_pushed" "_law_pushed" (defArgs s__law_pushed) (defBody s__law_pushed) (defScope s__law_pushed) .none kV25 dc25 pm25 an25 cd25 ct25), sl25⟩) (c25 : PySem.W.codeIn K cd25 "_law_pushed" = true) (k25 : PySem.W.keepIn K (.ref f25) = true)
    (a26 : PySem.W.nsIn K mainGlobals "_law_by_last" = some (some (.ref f26))) (l26 : K.lookup f26 = some ⟨oc26, od26, .func (PySem.W.fnOf "_law_by_last" "_law_by_last" (defArgs s__law_by_last) (defBody s__law_by_last) (defScope s__law_by_last) .none kV26 dc26 pm26 an26 cd26 ct26), sl26⟩) (c26 : PySem.W.codeIn K cd26 "_law_by_last" = true) (k26 : PySem.W.keepIn K (.ref f26) = true)
    (a27 : PySem.W.nsIn K mainGlobals "_law_single" = some (some (.ref f27))) (l27 : K.lookup f27 = some ⟨oc27, od27, .func (PySem.W.fnOf "_law_single" "_law_single" (defArgs s__law_single) (defBody s__law_single) (defScope s__law_single) .none kV27 dc27 pm27 an27 cd27 ct27), sl27⟩) (c27 : PySem.W.codeIn K cd27 "_law_single" = true) (k27 : PySem.W.keepIn K (.ref f27) = true)
    (a28 : PySem.W.nsIn K mainGlobals "_law_w_told" = some (some (.ref f28))) (l28 : K.lookup f28 = some ⟨oc28, od28, .func (PySem.W.fnOf "_law_w_told" "_law_w_told" (defArgs s__law_w_told) (defBody s__law_w_told) (defScope s__law_w_told) .none kV28 dc28 pm28 an28 cd28 ct28), sl28⟩) (c28 : PySem.W.codeIn K cd28 "_law_w_told" = true) (k28 : PySem.W.keepIn K (.ref f28) = true)
    (a29 : PySem.W.nsIn K mainGlobals "_law_w_is_number" = some (some (.ref f29))) (l29 : K.lookup f29 = some ⟨oc29, od29, .func (PySem.W.fnOf "_law_w_is_number" "_law_w_is_number" (defArgs s__law_w_is_number) (defBody s__law_w_is_number) (defScope s__law_w_is_number) .none kV29 dc29 pm29 an29 cd29 ct29), sl29⟩) (c29 : PySem.W.codeIn K cd29 "_law_w_is_number" = true) (k29 : PySem.W.keepIn K (.ref f29) = true)
    (a30 : PySem.W.nsIn K mainGlobals "_law_w_is_word" = some (some (.ref f30))) (l30 : K.lookup f30 = some ⟨oc30, od30, .func (PySem.W.fnOf "_law_w_is_word" "_law_w_is_word" (defArgs s__law_w_is_word) (defBody s__law_w_is_word) (defScope s__law_w_is_word) .none kV30 dc30 pm30 an30 cd30 ct30), sl30⟩) (c30 : PySem.W.codeIn K cd30 "_law_w_is_word" = true) (k30 : PySem.W.keepIn K (.ref f30) = true)
    (a31 : PySem.W.nsIn K mainGlobals "_law_w_rising" = some (some (.ref f31))) (l31 : K.lookup f31 = some ⟨oc31, od31, .func (PySem.W.fnOf "_law_w_rising" "_law_w_rising" (defArgs s__law_w_rising) (defBody s__law_w_rising) (defScope s__law_w_rising) .none kV31 dc31 pm31 an31 cd31 ct31), sl31⟩) (c31 : PySem.W.codeIn K cd31 "_law_w_rising" = true) (k31 : PySem.W.keepIn K (.ref f31) = true)
    (a32 : PySem.W.nsIn K mainGlobals "_law_w_are_pairs" = some (some (.ref f32))) (l32 : K.lookup f32 = some ⟨oc32, od32, .func (PySem.W.fnOf "_law_w_are_pairs" "_law_w_are_pairs" (defArgs s__law_w_are_pairs) (defBody s__law_w_are_pairs) (defScope s__law_w_are_pairs) .none kV32 dc32 pm32 an32 cd32 ct32), sl32⟩) (c32 : PySem.W.codeIn K cd32 "_law_w_are_pairs" = true) (k32 : PySem.W.keepIn K (.ref f32) = true)
    (a33 : PySem.W.nsIn K mainGlobals "_law_w_are_moves" = some (some (.ref f33))) (l33 : K.lookup f33 = some ⟨oc33, od33, .func (PySem.W.fnOf "_law_w_are_moves" "_law_w_are_moves" (defArgs s__law_w_are_moves) (defBody s__law_w_are_moves) (defScope s__law_w_are_moves) .none kV33 dc33 pm33 an33 cd33 ct33), sl33⟩) (c33 : PySem.W.codeIn K cd33 "_law_w_are_moves" = true) (k33 : PySem.W.keepIn K (.ref f33) = true)
    (a34 : PySem.W.nsIn K mainGlobals "_law_w_is_machine" = some (some (.ref f34))) (l34 : K.lookup f34 = some ⟨oc34, od34, .func (PySem.W.fnOf "_law_w_is_machine" "_law_w_is_machine" (defArgs s__law_w_is_machine) (defBody s__law_w_is_machine) (defScope s__law_w_is_machine) .none kV34 dc34 pm34 an34 cd34 ct34), sl34⟩) (c34 : PySem.W.codeIn K cd34 "_law_w_is_machine" = true) (k34 : PySem.W.keepIn K (.ref f34) = true)
    (a35 : PySem.W.nsIn K mainGlobals "_law_w_bent" = some (some (.ref f35))) (l35 : K.lookup f35 = some ⟨oc35, od35, .func (PySem.W.fnOf "_law_w_bent" "_law_w_bent" (defArgs s__law_w_bent) (defBody s__law_w_bent) (defScope s__law_w_bent) .none kV35 dc35 pm35 an35 cd35 ct35), sl35⟩) (c35 : PySem.W.codeIn K cd35 "_law_w_bent" = true) (k35 : PySem.W.keepIn K (.ref f35) = true)
    (a36 : PySem.W.nsIn K mainGlobals "_law_w_drawn" = some (some (.ref f36))) (l36 : K.lookup f36 = some ⟨oc36, od36, .func (PySem.W.fnOf "_law_w_drawn" "_law_w_drawn" (defArgs s__law_w_drawn) (defBody s__law_w_drawn) (defScope s__law_w_drawn) .none kV36 dc36 pm36 an36 cd36 ct36), sl36⟩) (c36 : PySem.W.codeIn K cd36 "_law_w_drawn" = true) (k36 : PySem.W.keepIn K (.ref f36) = true)
    (a37 : PySem.W.nsIn K mainGlobals "law" = some (some (.ref f37))) (l37 : K.lookup f37 = some ⟨oc37, od37, .func (PySem.W.fnOf "law" "law" (defArgs s_law) (defBody s_law) (defScope s_law) .none kV37 dc37 pm37 an37 cd37 ct37), sl37⟩) (c37 : PySem.W.codeIn K cd37 "law" = true) (k37 : PySem.W.keepIn K (.ref f37) = true)
    (z0 : PySem.W.nsIn K mainGlobals "isinstance" = some none) (z1 : PySem.W.nsIn K mainGlobals "list" = some none) (z2 : PySem.W.nsIn K mainGlobals "tuple" = some none) (z3 : PySem.W.nsIn K mainGlobals "int" = some none) (z4 : PySem.W.nsIn K mainGlobals "bool" = some none) (z5 : PySem.W.nsIn K mainGlobals "str" = some none) (z6 : PySem.W.nsIn K mainGlobals "dict" = some none) (z7 : PySem.W.nsIn K mainGlobals "len" = some none) (z8 : PySem.W.nsIn K mainGlobals "all" = some none) (z9 : PySem.W.nsIn K mainGlobals "any" = some none) (z10 : PySem.W.nsIn K mainGlobals "zip" = some none) (z11 : PySem.W.nsIn K mainGlobals "range" = some none) (z12 : PySem.W.nsIn K mainGlobals "sorted" = some none) (z13 : PySem.W.nsIn K mainGlobals "abs" = some none) :
    ∃ fd : FuncData, (∀ (s : Shared) (v : Value), BindsTo s fd ⟨[v], []⟩ [("script", v)]) ∧ ∀ base : Heap, K.In base → base.Ns mainGlobals mg → FnOk l.prog w K mg base CX0 17 fa fd ["script"] (spLaw K) := by
  have e := hfa.symm.trans (PySem.W.mg_of X G a37)
  cases e
  have bi : ∀ x ∈ BI, mg x = none := fun x hx => by
    simp only [BI, List.mem_cons, List.not_mem_nil, or_false] at hx
    rcases hx with rfl | rfl | rfl | rfl | rfl | rfl | rfl | rfl | rfl | rfl | rfl | rfl | rfl | rfl
    · exact PySem.W.mg_none_of X G z0
    · exact PySem.W.mg_none_of X G z1
    · exact PySem.W.mg_none_of X G z2
    · exact PySem.W.mg_none_of X G z3
    · exact PySem.W.mg_none_of X G z4
    · exact PySem.W.mg_none_of X G z5
    · exact PySem.W.mg_none_of X G z6
    · exact PySem.W.mg_none_of X G z7
    · exact PySem.W.mg_none_of X G z8
    · exact PySem.W.mg_none_of X G z9
    · exact PySem.W.mg_none_of X G z10
    · exact PySem.W.mg_none_of X G z11
    · exact PySem.W.mg_none_of X G z12
    · exact PySem.W.mg_none_of X G z13
  have F0 := fun_mk (st := s_is_list) l0 c0 k0
  have b0 := F0.binds (ps := ps_is_list) fun _ _ _ _ _ _ us hl => match us, hl with | [_], _ => rfl
  have T0 : DefT K mg "is_list" s_is_list ps_is_list := ⟨_, _, F0, PySem.W.mg_of X G a0, b0⟩
  have F1 := fun_mk (st := s_is_whole) l1 c1 k1
  have b1 := F1.binds (ps := ps_is_whole) fun _ _ _ _ _ _ us hl => match us, hl with | [_], _ => rfl
  have T1 : DefT K mg "is_whole" s_is_whole ps_is_whole := ⟨_, _, F1, PySem.W.mg_of X G a1, b1⟩
  have F2 := fun_mk (st := s_is_number) l2 c2 k2
  have b2 := F2.binds (ps := ps_is_number) fun _ _ _ _ _ _ us hl => match us, hl with | [_], _ => rfl
  have T2 : DefT K mg "is_number" s_is_number ps_is_number := ⟨_, _, F2, PySem.W.mg_of X G a2, b2⟩
  have F3 := fun_mk (st := s_is_below) l3 c3 k3
  have b3 := F3.binds (ps := ps_is_below) fun _ _ _ _ _ _ us hl => match us, hl with | [_, _], _ => rfl
  have T3 : DefT K mg "is_below" s_is_below ps_is_below := ⟨_, _, F3, PySem.W.mg_of X G a3, b3⟩
  have F4 := fun_mk (st := s_is_row) l4 c4 k4
  have b4 := F4.binds (ps := ps_is_row) fun _ _ _ _ _ _ us hl => match us, hl with | [_, _], _ => rfl
  have T4 : DefT K mg "is_row" s_is_row ps_is_row := ⟨_, _, F4, PySem.W.mg_of X G a4, b4⟩
  have F5 := fun_mk (st := s_is_ascending) l5 c5 k5
  have b5 := F5.binds (ps := ps_is_ascending) fun _ _ _ _ _ _ us hl => match us, hl with | [_], _ => rfl
  have T5 : DefT K mg "is_ascending" s_is_ascending ps_is_ascending := ⟨_, _, F5, PySem.W.mg_of X G a5, b5⟩
  have F6 := fun_mk (st := s_kept_word) l6 c6 k6
  have b6 := F6.binds (ps := ps_kept_word) fun _ _ _ _ _ _ us hl => match us, hl with | [_, _], _ => rfl
  have T6 : DefT K mg "kept_word" s_kept_word ps_kept_word := ⟨_, _, F6, PySem.W.mg_of X G a6, b6⟩
  have F7 := fun_mk (st := s_kept_pair) l7 c7 k7
  have b7 := F7.binds (ps := ps_kept_pair) fun _ _ _ _ _ _ us hl => match us, hl with | [_, _, _], _ => rfl
  have T7 : DefT K mg "kept_pair" s_kept_pair ps_kept_pair := ⟨_, _, F7, PySem.W.mg_of X G a7, b7⟩
  have F8 := fun_mk (st := s_kept_move) l8 c8 k8
  have b8 := F8.binds (ps := ps_kept_move) fun _ _ _ _ _ _ us hl => match us, hl with | [_, _, _, _], _ => rfl
  have T8 : DefT K mg "kept_move" s_kept_move ps_kept_move := ⟨_, _, F8, PySem.W.mg_of X G a8, b8⟩
  have F9 := fun_mk (st := s_kept_all) l9 c9 k9
  have b9 := F9.binds (ps := ps_kept_all) fun _ _ _ _ _ _ us hl => match us, hl with | [_], _ => rfl
  have T9 : DefT K mg "kept_all" s_kept_all ps_kept_all := ⟨_, _, F9, PySem.W.mg_of X G a9, b9⟩
  have F10 := fun_mk (st := s_kept_machine) l10 c10 k10
  have b10 := F10.binds (ps := ps_kept_machine) fun _ _ _ _ _ _ us hl => match us, hl with | [_], _ => rfl
  have T10 : DefT K mg "kept_machine" s_kept_machine ps_kept_machine := ⟨_, _, F10, PySem.W.mg_of X G a10, b10⟩
  have F11 := fun_mk (st := s_is_machine) l11 c11 k11
  have b11 := F11.binds (ps := ps_is_machine) fun _ _ _ _ _ _ us hl => match us, hl with | [_], _ => rfl
  have T11 : DefT K mg "is_machine" s_is_machine ps_is_machine := ⟨_, _, F11, PySem.W.mg_of X G a11, b11⟩
  have F12 := fun_mk (st := s__law_stream) l12 c12 k12
  have b12 := F12.binds (ps := ps__law_stream) fun _ _ _ _ _ _ us hl => match us, hl with | [_], _ => rfl
  have T12 : DefT K mg "_law_stream" s__law_stream ps__law_stream := ⟨_, _, F12, PySem.W.mg_of X G a12, b12⟩
  have F13 := fun_mk (st := s__law_draw) l13 c13 k13
  have b13 := F13.binds (ps := ps__law_draw) fun _ _ _ _ _ _ us hl => match us, hl with | [_, _], _ => rfl
  have T13 : DefT K mg "_law_draw" s__law_draw ps__law_draw := ⟨_, _, F13, PySem.W.mg_of X G a13, b13⟩
  have F14 := fun_mk (st := s__law_pick) l14 c14 k14
  have b14 := F14.binds (ps := ps__law_pick) fun _ _ _ _ _ _ us hl => match us, hl with | [_, _], _ => rfl
  have T14 : DefT K mg "_law_pick" s__law_pick ps__law_pick := ⟨_, _, F14, PySem.W.mg_of X G a14, b14⟩
  have F15 := fun_mk (st := s__law_same) l15 c15 k15
  have b15 := F15.binds (ps := ps__law_same) fun _ _ _ _ _ _ us hl => match us, hl with | [_, _], _ => rfl
  have T15 : DefT K mg "_law_same" s__law_same ps__law_same := ⟨_, _, F15, PySem.W.mg_of X G a15, b15⟩
  have F16 := fun_mk (st := s__law_copied) l16 c16 k16
  have b16 := F16.binds (ps := ps__law_copied) fun _ _ _ _ _ _ us hl => match us, hl with | [_], _ => rfl
  have T16 : DefT K mg "_law_copied" s__law_copied ps__law_copied := ⟨_, _, F16, PySem.W.mg_of X G a16, b16⟩
  have F17 := fun_mk (st := s__law_loose) l17 c17 k17
  have b17 := F17.binds (ps := ps__law_loose) fun _ _ _ _ _ _ us hl => match us, hl with | [_, _], _ => rfl
  have T17 : DefT K mg "_law_loose" s__law_loose ps__law_loose := ⟨_, _, F17, PySem.W.mg_of X G a17, b17⟩
  have F18 := fun_mk (st := s__law_said) l18 c18 k18
  have b18 := F18.binds (ps := ps__law_said) fun _ _ _ _ _ _ us hl => match us, hl with | [_, _, _], _ => rfl
  have T18 : DefT K mg "_law_said" s__law_said ps__law_said := ⟨_, _, F18, PySem.W.mg_of X G a18, b18⟩
  have F19 := fun_mk (st := s__law_unlike) l19 c19 k19
  have b19 := F19.binds (ps := ps__law_unlike) fun _ _ _ _ _ _ us hl => match us, hl with | [_], _ => rfl
  have T19 : DefT K mg "_law_unlike" s__law_unlike ps__law_unlike := ⟨_, _, F19, PySem.W.mg_of X G a19, b19⟩
  have F20 := fun_mk (st := s__law_machine) l20 c20 k20
  have b20 := F20.binds (ps := ps__law_machine) fun _ _ _ _ _ _ us hl => match us, hl with | [_, _, _, _, _], _ => rfl
  have T20 : DefT K mg "_law_machine" s__law_machine ps__law_machine := ⟨_, _, F20, PySem.W.mg_of X G a20, b20⟩
  have F21 := fun_mk (st := s__law_reader) l21 c21 k21
  have b21 := F21.binds (ps := ps__law_reader) fun _ _ _ _ _ _ us hl => match us, hl with | [_, _, _, _], _ => rfl
  have T21 : DefT K mg "_law_reader" s__law_reader ps__law_reader := ⟨_, _, F21, PySem.W.mg_of X G a21, b21⟩
  have F22 := fun_mk (st := s__law_as_machine) l22 c22 k22
  have b22 := F22.binds (ps := ps__law_as_machine) fun _ _ _ _ _ _ us hl => match us, hl with | [_], _ => rfl
  have T22 : DefT K mg "_law_as_machine" s__law_as_machine ps__law_as_machine := ⟨_, _, F22, PySem.W.mg_of X G a22, b22⟩
  have F23 := fun_mk (st := s__law_mirrored) l23 c23 k23
  have b23 := F23.binds (ps := ps__law_mirrored) fun _ _ _ _ _ _ us hl => match us, hl with | [_], _ => rfl
  have T23 : DefT K mg "_law_mirrored" s__law_mirrored ps__law_mirrored := ⟨_, _, F23, PySem.W.mg_of X G a23, b23⟩
  have F24 := fun_mk (st := s__law_split) l24 c24 k24
  have b24 := F24.binds (ps := ps__law_split) fun _ _ _ _ _ _ us hl => match us, hl with | [_, _], _ => rfl
  have T24 : DefT K mg "_law_split" s__law_split ps__law_split := ⟨_, _, F24, PySem.W.mg_of X G a24, b24⟩
  have F25 := fun_mk (st := s__law_pushed) l25 c25 k25
  have b25 := F25.binds (ps := ps__law_pushed) fun _ _ _ _ _ _ us hl => match us, hl with | [_, _], _ => rfl
  have T25 : DefT K mg "_law_pushed" s__law_pushed ps__law_pushed := ⟨_, _, F25, PySem.W.mg_of X G a25, b25⟩
  have F26 := fun_mk (st := s__law_by_last) l26 c26 k26
  have b26 := F26.binds (ps := ps__law_by_last) fun _ _ _ _ _ _ us hl => match us, hl with | [_, _, _], _ => rfl
  have T26 : DefT K mg "_law_by_last" s__law_by_last ps__law_by_last := ⟨_, _, F26, PySem.W.mg_of X G a26, b26⟩
  have F27 := fun_mk (st := s__law_single) l27 c27 k27
  have b27 := F27.binds (ps := ps__law_single) fun _ _ _ _ _ _ us hl => match us, hl with | [_], _ => rfl
  have T27 : DefT K mg "_law_single" s__law_single ps__law_single := ⟨_, _, F27, PySem.W.mg_of X G a27, b27⟩
  have F28 := fun_mk (st := s__law_w_told) l28 c28 k28
  have b28 := F28.binds (ps := ps__law_w_told) fun _ _ _ _ _ _ us hl => match us, hl with | [_], _ => rfl
  have T28 : DefT K mg "_law_w_told" s__law_w_told ps__law_w_told := ⟨_, _, F28, PySem.W.mg_of X G a28, b28⟩
  have F29 := fun_mk (st := s__law_w_is_number) l29 c29 k29
  have b29 := F29.binds (ps := ps__law_w_is_number) fun _ _ _ _ _ _ us hl => match us, hl with | [_, _], _ => rfl
  have T29 : DefT K mg "_law_w_is_number" s__law_w_is_number ps__law_w_is_number := ⟨_, _, F29, PySem.W.mg_of X G a29, b29⟩
  have F30 := fun_mk (st := s__law_w_is_word) l30 c30 k30
  have b30 := F30.binds (ps := ps__law_w_is_word) fun _ _ _ _ _ _ us hl => match us, hl with | [_, _], _ => rfl
  have T30 : DefT K mg "_law_w_is_word" s__law_w_is_word ps__law_w_is_word := ⟨_, _, F30, PySem.W.mg_of X G a30, b30⟩
  have F31 := fun_mk (st := s__law_w_rising) l31 c31 k31
  have b31 := F31.binds (ps := ps__law_w_rising) fun _ _ _ _ _ _ us hl => match us, hl with | [_], _ => rfl
  have T31 : DefT K mg "_law_w_rising" s__law_w_rising ps__law_w_rising := ⟨_, _, F31, PySem.W.mg_of X G a31, b31⟩
  have F32 := fun_mk (st := s__law_w_are_pairs) l32 c32 k32
  have b32 := F32.binds (ps := ps__law_w_are_pairs) fun _ _ _ _ _ _ us hl => match us, hl with | [_, _, _], _ => rfl
  have T32 : DefT K mg "_law_w_are_pairs" s__law_w_are_pairs ps__law_w_are_pairs := ⟨_, _, F32, PySem.W.mg_of X G a32, b32⟩
  have F33 := fun_mk (st := s__law_w_are_moves) l33 c33 k33
  have b33 := F33.binds (ps := ps__law_w_are_moves) fun _ _ _ _ _ _ us hl => match us, hl with | [_, _, _, _], _ => rfl
  have T33 : DefT K mg "_law_w_are_moves" s__law_w_are_moves ps__law_w_are_moves := ⟨_, _, F33, PySem.W.mg_of X G a33, b33⟩
  have F34 := fun_mk (st := s__law_w_is_machine) l34 c34 k34
  have b34 := F34.binds (ps := ps__law_w_is_machine) fun _ _ _ _ _ _ us hl => match us, hl with | [_], _ => rfl
  have T34 : DefT K mg "_law_w_is_machine" s__law_w_is_machine ps__law_w_is_machine := ⟨_, _, F34, PySem.W.mg_of X G a34, b34⟩
  have F35 := fun_mk (st := s__law_w_bent) l35 c35 k35
  have b35 := F35.binds (ps := ps__law_w_bent) fun _ _ _ _ _ _ us hl => match us, hl with | [_, _, _], _ => rfl
  have T35 : DefT K mg "_law_w_bent" s__law_w_bent ps__law_w_bent := ⟨_, _, F35, PySem.W.mg_of X G a35, b35⟩
  have F36 := fun_mk (st := s__law_w_drawn) l36 c36 k36
  have b36 := F36.binds (ps := ps__law_w_drawn) fun _ _ _ _ _ _ us hl => match us, hl with | [_], _ => rfl
  have T36 : DefT K mg "_law_w_drawn" s__law_w_drawn ps__law_w_drawn := ⟨_, _, F36, PySem.W.mg_of X G a36, b36⟩
  have F37 := fun_mk (st := s_law) l37 c37 k37
  have b37 := F37.binds (ps := ps_law) fun _ _ _ _ _ _ us hl => match us, hl with | [_], _ => rfl
  have T37 : DefT K mg "law" s_law ps_law := ⟨_, _, F37, PySem.W.mg_of X G a37, b37⟩
  refine ⟨PySem.W.fnOf "law" "law" (defArgs s_law) (defBody s_law) (defScope s_law) .none kV37 dc37 pm37 an37 cd37 ct37, fun s v => .of_eq rfl, fun base _ _ => ?_⟩
  have D_is_list := d_is_list (P := l.prog) (w := w) (base := base) bi T0 
  have D_is_whole := d_is_whole (P := l.prog) (w := w) (base := base) bi T1 
  have D_is_number := d_is_number (P := l.prog) (w := w) (base := base) bi T2 D_is_whole
  have D_is_below := d_is_below (P := l.prog) (w := w) (base := base) bi T3 D_is_number
  have D_is_row := d_is_row (P := l.prog) (w := w) (base := base) bi T4 D_is_list
  have D_is_ascending := d_is_ascending (P := l.prog) (w := w) (base := base) bi T5 
  have D_kept_word := d_kept_word (P := l.prog) (w := w) (base := base) bi T6 D_is_list D_is_number D_is_below
  have D_kept_pair := d_kept_pair (P := l.prog) (w := w) (base := base) bi T7 D_is_row D_is_below D_kept_word
  have D_kept_move := d_kept_move (P := l.prog) (w := w) (base := base) bi T8 D_is_row D_is_below D_kept_word
  have D_kept_all := d_kept_all (P := l.prog) (w := w) (base := base) bi T9 D_is_ascending
  have D_kept_machine := d_kept_machine (P := l.prog) (w := w) (base := base) bi T10 D_is_row D_is_whole D_is_list D_kept_pair D_kept_move D_kept_all
  have DK_is_machine := dk_is_machine (P := l.prog) (w := w) (base := base) bi T11 D_kept_machine
  have D__law_draw := d__law_draw (P := l.prog) (w := w) (base := base) bi T13 
  have D__law_pick := d__law_pick (P := l.prog) (w := w) (base := base) bi T14 D__law_draw
  have D__law_same := d__law_same (P := l.prog) (w := w) (base := base) bi T15 15
  have D__law_copied := d__law_copied (P := l.prog) (w := w) (base := base) bi T16 14
  have D__law_loose := d__law_loose (P := l.prog) (w := w) (base := base) bi T17 D__law_draw 11
  have D__law_said := d__law_said (P := l.prog) (w := w) (base := base) bi T18 D__law_draw D__law_pick
  have D__law_unlike := d__law_unlike (P := l.prog) (w := w) (base := base) bi T19 
  have D__law_machine := d__law_machine (P := l.prog) (w := w) (base := base) bi T20 D__law_draw D__law_said D__law_unlike
  have D__law_reader := d__law_reader (P := l.prog) (w := w) (base := base) bi T21 D__law_draw D__law_said
  have D__law_as_machine := d__law_as_machine (P := l.prog) (w := w) (base := base) bi T22 
  have D__law_mirrored := d__law_mirrored (P := l.prog) (w := w) (base := base) bi T23 D__law_unlike
  have D__law_split := d__law_split (P := l.prog) (w := w) (base := base) bi T24 D__law_draw D__law_unlike
  have D__law_pushed := d__law_pushed (P := l.prog) (w := w) (base := base) bi T25 D__law_draw D__law_unlike
  have D__law_by_last := d__law_by_last (P := l.prog) (w := w) (base := base) bi T26 D__law_said D__law_unlike
  have D__law_single := d__law_single (P := l.prog) (w := w) (base := base) bi T27 D__law_draw D__law_by_last D__law_reader D__law_as_machine D__law_mirrored D__law_pushed D__law_split
  have D__law_w_told := d__law_w_told (P := l.prog) (w := w) (base := base) bi T28 9
  have D__law_w_is_number := d__law_w_is_number (P := l.prog) (w := w) (base := base) bi T29 
  have D__law_w_is_word := d__law_w_is_word (P := l.prog) (w := w) (base := base) bi T30 D__law_w_is_number
  have D__law_w_rising := d__law_w_rising (P := l.prog) (w := w) (base := base) bi T31 D__law_w_told
  have D__law_w_are_pairs := d__law_w_are_pairs (P := l.prog) (w := w) (base := base) bi T32 D__law_w_is_number D__law_w_is_word D__law_w_rising
  have D__law_w_are_moves := d__law_w_are_moves (P := l.prog) (w := w) (base := base) bi T33 D__law_w_is_number D__law_w_is_word D__law_w_rising
  have D__law_w_is_machine := d__law_w_is_machine (P := l.prog) (w := w) (base := base) bi T34 D__law_w_is_number D__law_w_are_pairs D__law_w_are_moves
  have D__law_w_bent := d__law_w_bent (P := l.prog) (w := w) (base := base) bi T35 D__law_draw D__law_pick 10
  have D__law_w_drawn := d__law_w_drawn (P := l.prog) (w := w) (base := base) bi T36 D__law_draw D__law_machine D__law_single
  exact ok_law bi F37 F12 (PySem.W.mg_of X G a12) b12 D__law_w_drawn D__law_loose D__law_w_bent D__law_copied D__law_w_is_machine D__law_same DK_is_machine
theorem walk {l : PySem.W.OpenLaw} {q : Program} {loose : List Str} {XP : (Str → Option Value) → Heap → Prop} {YP : World → Heap → Prop} {d : DefRec} {K : Params → PySem.W.Frag} (hn : l.most = some 63) (hdf : d.params.defaults = [])
    (hY : ∀ (w : World) (h : Heap), YP w h → (K w.params).In h)
    (F : ∀ (w : World) (mg : Str → Option Value) (fa : Addr) (h : Heap), (K w.params).In h → h.Ns mainGlobals mg → mg d.name = some (.ref fa) →
      ∃ fd : FuncData, (∀ (s : Shared) (u : Value), BindsTo s fd ⟨[u], []⟩ [("script", u)]) ∧ ∀ base : Heap, (K w.params).In base → base.Ns mainGlobals mg → FnOk l.prog w (K w.params) mg base CX0 17 fa fd ["script"] (spLaw (K w.params))) :
    PySem.W.WalkO q loose XP YP l.row.toRowW d [] (fun f vs => PySem.call f vs) :=
  L2.walk_of (n := 63) (k := 17) (x := "script") (CX := fun _ => CX0) (sp := fun w => spLaw (K w.params)) hn (by decide) hdf ⟨rfl, by decide, by decide⟩ hY F (fun _ _ a ns hl _ hS => ⟨a, ns, rfl, hS, hl, fun _ => rfl⟩) fun _ _ _ _ _ z => z
end
end MC
open PySem PySem.W PyProof.Rows
set_option maxRecDepth 100000 in
set_option maxHeartbeats 0 in
theorem PySem.Challenge.cw_wordforword_k02_machines_known_holds : PySem.Challenge.rw_wordforword_k02_machines_known.Holds := by
  w_on; o_law; k_head; (case hw => w_witness2)
  k_fill
  refine MC.walk (l := PySem.Challenge.rw_wordforword_k02_machines_known) rfl rfl (fun w h Y => PySem.W.kIn_of Y) ?F
  case F =>
    intro w mg fa h KX G hmg
    refine' MC.all_mk KX G hmg ?a0 ?l0 ?c0 ?k0 ?a1 ?l1 ?c1 ?k1 ?a2 ?l2 ?c2 ?k2 ?a3 ?l3 ?c3 ?k3 ?a4 ?l4 ?c4 ?k4 ?a5 ?l5 ?c5 ?k5 ?a6 ?l6 ?c6 ?k6 ?a7 ?l7 ?c7 ?k7 ?a8 ?l8 ?c8 ?k8 ?a9 ?l9 ?c9 ?k9 ?a10 ?l10 ?c10 ?k10 ?a11 ?l11 ?c11 ?k11 ?a12 ?l12 ?c12 ?k12 ?a13 ?l13 ?c13 ?k13 ?a14 ?l14 ?c14 ?k14 ?a15 ?l15 ?c15 ?k15 ?a16 ?l16 ?c16 ?k16 ?a17 ?l17 ?c17 ?k17 ?a18 ?l18 ?c18 ?k18 ?a19 ?l19 ?c19 ?k19 ?a20 ?l20 ?c20 ?k20 ?a21 ?l21 ?c21 ?k21 ?a22 ?l22 ?c22 ?k22 ?a23 ?l23 ?c23 ?k23 ?a24 ?l24 ?c24 ?k24 ?a25 ?l25 ?c25 ?k25 ?a26 ?l26 ?c26 ?k26 ?a27 ?l27 ?c27 ?k27 ?a28 ?l28 ?c28 ?k28 ?a29 ?l29 ?c29 ?k29 ?a30 ?l30 ?c30 ?k30 ?a31 ?l31 ?c31 ?k31 ?a32 ?l32 ?c32 ?k32 ?a33 ?l33 ?c33 ?k33 ?a34 ?l34 ?c34 ?k34 ?a35 ?l35 ?c35 ?k35 ?a36 ?l36 ?c36 ?k36 ?a37 ?l37 ?c37 ?k37 ?z0 ?z1 ?z2 ?z3 ?z4 ?z5 ?z6 ?z7 ?z8 ?z9 ?z10 ?z11 ?z12 ?z13
    (case a0 => k_is)
    (case l0 => k_is)
    (case c0 => k_is)
    (case k0 => k_is)
    (case a1 => k_is)
    (case l1 => k_is)
    (case c1 => k_is)
    (case k1 => k_is)
    (case a2 => k_is)
    (case l2 => k_is)
    (case c2 => k_is)
    (case k2 => k_is)
    (case a3 => k_is)
    (case l3 => k_is)
    (case c3 => k_is)
    (case k3 => k_is)
    (case a4 => k_is)
    (case l4 => k_is)
    (case c4 => k_is)
    (case k4 => k_is)
    (case a5 => k_is)
    (case l5 => k_is)
    (case c5 => k_is)
    (case k5 => k_is)
    (case a6 => k_is)
    (case l6 => k_is)
    (case c6 => k_is)
    (case k6 => k_is)
    (case a7 => k_is)
    (case l7 => k_is)
    (case c7 => k_is)
    (case k7 => k_is)
    (case a8 => k_is)
    (case l8 => k_is)
    (case c8 => k_is)
    (case k8 => k_is)
    (case a9 => k_is)
    (case l9 => k_is)
    (case c9 => k_is)
    (case k9 => k_is)
    (case a10 => k_is)
    (case l10 => k_is)
    (case c10 => k_is)
    (case k10 => k_is)
    (case a11 => k_is)
    (case l11 => k_is)
    (case c11 => k_is)
    (case k11 => k_is)
    (case a12 => k_is)
    (case l12 => k_is)
    (case c12 => k_is)
    (case k12 => k_is)
    (case a13 => k_is)
    (case l13 => k_is)
    (case c13 => k_is)
    (case k13 => k_is)
    (case a14 => k_is)
    (case l14 => k_is)
    (case c14 => k_is)
    (case k14 => k_is)
    (case a15 => k_is)
    (case l15 => k_is)
    (case c15 => k_is)
    (case k15 => k_is)
    (case a16 => k_is)
    (case l16 => k_is)
    (case c16 => k_is)
    (case k16 => k_is)
    (case a17 => k_is)
    (case l17 => k_is)
    (case c17 => k_is)
    (case k17 => k_is)
    (case a18 => k_is)
    (case l18 => k_is)
    (case c18 => k_is)
    (case k18 => k_is)
    (case a19 => k_is)
    (case l19 => k_is)
    (case c19 => k_is)
    (case k19 => k_is)
    (case a20 => k_is)
    (case l20 => k_is)
    (case c20 => k_is)
    (case k20 => k_is)
    (case a21 => k_is)
    (case l21 => k_is)
    (case c21 => k_is)
    (case k21 => k_is)
    (case a22 => k_is)
    (case l22 => k_is)
    (case c22 => k_is)
    (case k22 => k_is)
    (case a23 => k_is)
    (case l23 => k_is)
    (case c23 => k_is)
    (case k23 => k_is)
    (case a24 => k_is)
    (case l24 => k_is)
    (case c24 => k_is)
    (case k24 => k_is)
    (case a25 => k_is)
    (case l25 => k_is)
    (case c25 => k_is)
    (case k25 => k_is)
    (case a26 => k_is)
    (case l26 => k_is)
    (case c26 => k_is)
    (case k26 => k_is)
    (case a27 => k_is)
    (case l27 => k_is)
    (case c27 => k_is)
    (case k27 => k_is)
    (case a28 => k_is)
    (case l28 => k_is)
    (case c28 => k_is)
    (case k28 => k_is)
    (case a29 => k_is)
    (case l29 => k_is)
    (case c29 => k_is)
    (case k29 => k_is)
    (case a30 => k_is)
    (case l30 => k_is)
    (case c30 => k_is)
    (case k30 => k_is)
    (case a31 => k_is)
    (case l31 => k_is)
    (case c31 => k_is)
    (case k31 => k_is)
    (case a32 => k_is)
    (case l32 => k_is)
    (case c32 => k_is)
    (case k32 => k_is)
    (case a33 => k_is)
    (case l33 => k_is)
    (case c33 => k_is)
    (case k33 => k_is)
    (case a34 => k_is)
    (case l34 => k_is)
    (case c34 => k_is)
    (case k34 => k_is)
    (case a35 => k_is)
    (case l35 => k_is)
    (case c35 => k_is)
    (case k35 => k_is)
    (case a36 => k_is)
    (case l36 => k_is)
    (case c36 => k_is)
    (case k36 => k_is)
    (case a37 => k_is)
    (case l37 => k_is)
    (case c37 => k_is)
    (case k37 => k_is)
    (case z0 => k_is)
    (case z1 => k_is)
    (case z2 => k_is)
    (case z3 => k_is)
    (case z4 => k_is)
    (case z5 => k_is)
    (case z6 => k_is)
    (case z7 => k_is)
    (case z8 => k_is)
    (case z9 => k_is)
    (case z10 => k_is)
    (case z11 => k_is)
    (case z12 => k_is)
    (case z13 => k_is)
