import PyProof.Rows.All
import Wide.All
import OpenK.AllK
import Wide.FinOn
import HandS.ForMost
import HandS.IsInst
import HandS.Deep
import HandS.Zip
import HandS.Flow
import HandS.TryOnly
import HandS.Wide
import HandS.Evl
import HandS.Exc
import HandS.Lambda
import KE.SortData
import HandS.TupAny
import HandS.Style
import HandS.ListItems
import HandS.Conv
import HandS.More
import HandS.ExcInit
import HandS.ExcField
import HandS.TryMany
import HandS.Codes
import HandS.Nested
import HandS.DictComp
import KE.KDictWalk
import PyProof.NeKinds
import HandS.EndTab
import HandS.ExcIs
import PySem.Challenge.RW_wordforword_k37_learning_refused
set_option Elab.async false
set_option autoImplicit false
set_option linter.all false
set_option maxRecDepth 100000
set_option maxHeartbeats 4000000
/-! The Deep layer, 1: values as data of any depth (Rp), the frozen part of a heap, what an expression means by data. -/
namespace DD
open PySem PySem.Spec PyProof.Rows L2
open Evl (Ex)

def keyD : Key → PyData
  | .inl i => .int i
  | .inr x => .str x

mutual
/-- v stands for the datum, by what F tells -/
inductive Rp (F : Hp) : V → PyData → Prop
  | non : Rp F .non .none
  | bl (b : Bool) : Rp F (.bl b) (.bool b)
  | int (i : Int) : Rp F (.int i) (.int i)
  | str (x : Str) : Rp F (.str x) (.str x)
  | lst {a : Addr} {xs : List V} {ds : List PyData} : F a = some (.lst xs) → RpA F xs ds → Rp F (.ref a) (.list ds)
  | tup {a : Addr} {xs : List V} {ds : List PyData} : F a = some (.tup xs) → RpA F xs ds → Rp F (.ref a) (.tuple ds)
  | dK {a : Addr} {o : Obj} {kvs : List (Key × V)} {es : List (PyData × PyData)} : F a = some (.frz o (.dK kvs)) → RpK F kvs es → Rp F (.ref a) (.dict es)
  | dT {a : Addr} {o : Obj} {kvs : List (List Key × V)} {es : List (PyData × PyData)} : F a = some (.frz o (.dT kvs)) → kvs ≠ [] → RpT F kvs es → Rp F (.ref a) (.dict es)
inductive RpA (F : Hp) : List V → List PyData → Prop
  | nil : RpA F [] []
  | cons {v : V} {vs : List V} {d : PyData} {ds : List PyData} : Rp F v d → RpA F vs ds → RpA F (v :: vs) (d :: ds)
inductive RpK (F : Hp) : List (Key × V) → List (PyData × PyData) → Prop
  | nil : RpK F [] []
  | cons {k : Key} {v : V} {r : List (Key × V)} {d : PyData} {e : List (PyData × PyData)} : Rp F v d → RpK F r e → RpK F ((k, v) :: r) ((keyD k, d) :: e)
inductive RpT (F : Hp) : List (List Key × V) → List (PyData × PyData) → Prop
  | nil : RpT F [] []
  | cons {k : List Key} {v : V} {r : List (List Key × V)} {d : PyData} {e : List (PyData × PyData)} : Rp F v d → RpT F r e → RpT F ((k, v) :: r) ((.tuple (k.map keyD), d) :: e)
end

mutual
theorem Rp.mono {F F' : Hp} (e : Ex F F') : ∀ {v : V} {d : PyData}, Rp F v d → Rp F' v d
  | _, _, .non => .non
  | _, _, .bl b => .bl b
  | _, _, .int i => .int i
  | _, _, .str x => .str x
  | _, _, .lst h r => .lst (e _ _ h) (RpA.mono e r)
  | _, _, .tup h r => .tup (e _ _ h) (RpA.mono e r)
  | _, _, .dK h r => .dK (e _ _ h) (RpK.mono e r)
  | _, _, .dT h n r => .dT (e _ _ h) n (RpT.mono e r)
theorem RpA.mono {F F' : Hp} (e : Ex F F') : ∀ {v : List V} {d : List PyData}, RpA F v d → RpA F' v d
  | _, _, .nil => .nil
  | _, _, .cons h r => .cons (Rp.mono e h) (RpA.mono e r)
theorem RpK.mono {F F' : Hp} (e : Ex F F') : ∀ {v : List (Key × V)} {d : List (PyData × PyData)}, RpK F v d → RpK F' v d
  | _, _, .nil => .nil
  | _, _, .cons h r => .cons (Rp.mono e h) (RpK.mono e r)
theorem RpT.mono {F F' : Hp} (e : Ex F F') : ∀ {v : List (List Key × V)} {d : List (PyData × PyData)}, RpT F v d → RpT F' v d
  | _, _, .nil => .nil
  | _, _, .cons h r => .cons (Rp.mono e h) (RpT.mono e r)
end

theorem RpA.length {F : Hp} : ∀ {xs : List V} {ds : List PyData}, RpA F xs ds → xs.length = ds.length
  | _, _, .nil => rfl
  | _, _, .cons _ r => congrArg (· + 1) r.length
theorem RpA.get {F : Hp} : ∀ {xs : List V} {ds : List PyData} {i : Nat} {d : PyData}, RpA F xs ds → ds[i]? = some d → ∃ v, xs[i]? = some v ∧ Rp F v d
  | _, _, _, _, .nil, e => by simp at e
  | _, _, 0, _, .cons r _, e => by simp at e; subst e; exact ⟨_, rfl, r⟩
  | _, _, i + 1, d, .cons _ t, e => by
    obtain ⟨u, h1, h2⟩ := RpA.get (i := i) (d := d) t (by simpa using e)
    exact ⟨u, by simpa using h1, h2⟩
theorem RpA.getV {F : Hp} : ∀ {xs : List V} {ds : List PyData} {i : Nat} {v : V}, RpA F xs ds → xs[i]? = some v → ∃ d, ds[i]? = some d ∧ Rp F v d
  | _, _, _, _, .nil, e => by simp at e
  | _, _, 0, _, .cons r _, e => by simp at e; subst e; exact ⟨_, rfl, r⟩
  | _, _, i + 1, d, .cons _ t, e => by
    obtain ⟨u, h1, h2⟩ := RpA.getV (i := i) (v := d) t (by simpa using e)
    exact ⟨u, by simpa using h1, h2⟩
theorem RpA.append {F : Hp} : ∀ {xs ys : List V} {ds es : List PyData}, RpA F xs ds → RpA F ys es → RpA F (xs ++ ys) (ds ++ es)
  | _, _, _, _, .nil, s => s
  | _, _, _, _, .cons r t, s => .cons r (t.append s)
theorem RpA.one {F : Hp} {v : V} {d : PyData} (h : Rp F v d) : RpA F [v] [d] := .cons h .nil
theorem RpA.take {F : Hp} : ∀ {xs : List V} {ds : List PyData} (n : Nat), RpA F xs ds → RpA F (xs.take n) (ds.take n)
  | _, _, 0, _ => by simpa using RpA.nil
  | _, _, _ + 1, .nil => by simpa using RpA.nil
  | _, _, n + 1, .cons r t => by simpa using RpA.cons r (t.take n)
theorem RpA.drop {F : Hp} : ∀ {xs : List V} {ds : List PyData} (n : Nat), RpA F xs ds → RpA F (xs.drop n) (ds.drop n)
  | _, _, 0, r => r
  | _, _, _ + 1, .nil => by simpa using RpA.nil
  | _, _, n + 1, .cons _ t => by simpa using t.drop n
theorem RpA.set {F : Hp} {v : V} {d : PyData} (h : Rp F v d) : ∀ {xs : List V} {ds : List PyData} (i : Nat), RpA F xs ds → RpA F (xs.set i v) (ds.set i d)
  | _, _, _, .nil => .nil
  | _, _, 0, .cons _ t => .cons h t
  | _, _, i + 1, .cons q t => .cons q (t.set h i)
theorem RpA.reverse {F : Hp} : ∀ {xs : List V} {ds : List PyData}, RpA F xs ds → RpA F xs.reverse ds.reverse
  | _, _, .nil => .nil
  | _, _, .cons h t => by
    rw [List.reverse_cons, List.reverse_cons]
    exact t.reverse.append (.one h)
theorem RpA.ints {F : Hp} : ∀ ns : List Int, RpA F (ns.map V.int) (ns.map PyData.int)
  | [] => .nil
  | n :: ns => .cons (.int n) (RpA.ints ns)
theorem RpA.ofInts {F : Hp} : ∀ {ns : List Int} {xs : List V}, RpA F xs (ns.map PyData.int) → xs = ns.map V.int
  | [], _, .nil => rfl
  | n :: ns, _, .cons h t => by
    cases h
    rw [RpA.ofInts t]
    rfl
theorem RpA.ofBools {F : Hp} : ∀ {bs : List Bool} {xs : List V}, RpA F xs (bs.map PyData.bool) → xs = bs.map V.bl
  | [], _, .nil => rfl
  | n :: ns, _, .cons h t => by
    cases h
    rw [RpA.ofBools t]
    rfl
theorem RpA.of_vlist {F : Hp} {xs : List V} {ds : List PyData} (h : xs.length = ds.length) (hi : ∀ (i : Nat) (v : V) (d : PyData), xs[i]? = some v → ds[i]? = some d → Rp F v d) : RpA F xs ds := by
  induction xs generalizing ds with
  | nil => cases ds with
    | nil => exact .nil
    | cons _ _ => simp at h
  | cons x xs ih => cases ds with
    | nil => simp at h
    | cons d ds => exact .cons (hi 0 x d rfl rfl) (ih (by simpa using h) fun i v d h1 h2 => hi (i + 1) v d (by simpa using h1) (by simpa using h2))

mutual
def flatD : PyData → Bool
  | .list xs => flatDs xs
  | .tuple xs => flatDs xs
  | .dict _ => false
  | _ => true
def flatDs : List PyData → Bool
  | [] => true
  | x :: xs => flatD x && flatDs xs
end
mutual
theorem Rp.dp {K : PySem.W.Frag} {F H : Hp} (e : Ex F H) : ∀ {v : V} {d : PyData}, Rp F v d → flatD d = true → Dp K H v d
  | _, _, .non, _ => .non
  | _, _, .bl b, _ => .bl b
  | _, _, .int i, _ => .int i
  | _, _, .str x, _ => .str x
  | _, _, .lst h r, q => .lst (SqL.of (e _ _ h)) (RpA.dp e r (by simpa [flatD] using q))
  | _, _, .tup h r, q => .tup (SqT.of (e _ _ h)) (RpA.dp e r (by simpa [flatD] using q))
  | _, _, .dK h r, q => by simp [flatD] at q
  | _, _, .dT h _ r, q => by simp [flatD] at q
theorem RpA.dp {K : PySem.W.Frag} {F H : Hp} (e : Ex F H) : ∀ {v : List V} {d : List PyData}, RpA F v d → flatDs d = true → DpAll K H v d
  | _, _, .nil, _ => .nil
  | _, _, .cons h r, q => by
    rw [flatDs, Bool.and_eq_true] at q
    exact .cons (Rp.dp e h q.1) (RpA.dp e r q.2)
end
/-- may be compared by == : no dict within, laid shallow enough -/
def okD (d : PyData) : Bool := flatD d && SeqAt.shaped d

/-! ### heaps -/
/-- the zone that may change: the stream of draws, tables of code objects; and the wish of what is raised -/
structure Zn where
  st : Option (Addr × Addr)
  T : List (Addr × Str)
  W : XK
def z0 : Zn := ⟨none, [], fun _ _ _ => False⟩
def zs (p : Addr × Addr) : Zn := ⟨some p, [], fun _ _ _ => False⟩
def Sv (o : Option (Addr × Addr)) (c : Addr) : Prop := match o with
  | none => False
  | some (a, b) => c = a ∨ c = b
def Zv (z : Zn) (c : Addr) : Prop := Sv z.st c ∨ ∃ q, (c, q) ∈ z.T
theorem zv_z0 {c : Addr} : ¬ Zv z0 c := fun h => h.elim (fun q => q) fun ⟨_, q⟩ => nomatch q
theorem zv_zs {a b c : Addr} : Zv (zs (a, b)) c ↔ (c = a ∨ c = b) := ⟨fun h => h.elim id fun ⟨_, q⟩ => (nomatch q), fun h => .inl h⟩
structure Grow (z : Zn) (F H F' H' : Hp) : Prop where
  keep : ∀ b o, ¬ Zv z b → H b = some o → H' b = some o
  dom : ∀ b, H' b = none → H b = none
  ext : Ex F F'
  sub : Ex F' H'
  new : ∀ b, H b ≠ none → F b = none → F' b = none ∨ ∃ xs, F' b = some (.tup xs)
theorem Grow.refl {z : Zn} {F H : Hp} (e : Ex F H) : Grow z F H F H := ⟨fun _ _ _ h => h, fun _ h => h, Evl.Ex.refl F, e, fun _ _ h => .inl h⟩
theorem Grow.trans {z : Zn} {F H F1 H1 F2 H2 : Hp} (a : Grow z F H F1 H1) (b : Grow z F1 H1 F2 H2) : Grow z F H F2 H2 where
  keep := fun c o n h => b.keep c o n (a.keep c o n h)
  dom := fun c h => a.dom c (b.dom c h)
  ext := a.ext.trans b.ext
  sub := b.sub
  new := fun c h1 h2 => (a.new c h1 h2).elim (fun q => b.new c (fun q => h1 (a.dom c q)) q) fun ⟨xs, q⟩ => .inr ⟨xs, b.ext c _ q⟩
/-- an object of a def's own is not frozen by another -/
theorem Grow.apart {z : Zn} {F H F1 H1 : Hp} {l : Addr} {o : HO} (a : Grow z F H F1 H1) (h : H l = some o) (hz : ¬ Zv z l) (ho : ∀ xs, o ≠ .tup xs) (hf : F l = none) : F1 l = none := by
  rcases a.new l (by rw [h]; simp) hf with q | ⟨xs, q⟩
  · exact q
  · have e1 := a.sub l _ q
    rw [a.keep l o hz h] at e1
    exact absurd (Option.some.inj e1) (ho xs)
theorem Grow.weak {z : Zn} {F H F1 H1 : Hp} (a : Grow z0 F H F1 H1) : Grow z F H F1 H1 := ⟨fun c o _ h => a.keep c o zv_z0 h, a.dom, a.ext, a.sub, a.new⟩
theorem Grow.ex {F H F1 H1 : Hp} (a : Grow z0 F H F1 H1) : Ex H H1 := fun c o h => a.keep c o zv_z0 h
theorem Grow.widen {z z' : Zn} {F H F1 H1 : Hp} (a : Grow z F H F1 H1) (h : ∀ c, Zv z c → Zv z' c) : Grow z' F H F1 H1 := ⟨fun c o n e => a.keep c o (fun q => n (h c q)) e, a.dom, a.ext, a.sub, a.new⟩
/-- a new object, frozen at once -/
theorem Grow.laid {z : Zn} {F H : Hp} {p : Addr} {o : HO} (e : Ex F H) (hp : H p = none) : Grow z F H (upd F p o) (upd H p o) where
  keep := fun b u _ h => by rw [upd_ne (ne_of_none h hp)]; exact h
  dom := fun b h => by
    by_cases hb : b = p
    · subst hb; exact hp
    · rwa [upd_ne hb] at h
  ext := fun b u h => by
    rw [upd_ne (ne_of_none (e b u h) hp)]; exact h
  sub := fun b u h => by
    by_cases hb : b = p
    · subst hb; rw [upd_same] at h ⊢; exact h
    · rw [upd_ne hb] at h ⊢; exact e b u h
  new := fun b h1 h2 => by
    by_cases hb : b = p
    · subst hb; exact absurd hp h1
    · rw [upd_ne hb]; exact .inl h2
/-- a new object, not frozen -/
theorem Grow.fresh {z : Zn} {F H : Hp} {p : Addr} {o : HO} (e : Ex F H) (hp : H p = none) : Grow z F H F (upd H p o) where
  keep := fun b u _ h => by rw [upd_ne (ne_of_none h hp)]; exact h
  dom := fun b h => by
    by_cases hb : b = p
    · subst hb; exact hp
    · rwa [upd_ne hb] at h
  ext := Evl.Ex.refl F
  sub := fun b u h => by
    have := e b u h
    rw [upd_ne (ne_of_none this hp)]; exact this
  new := fun b _ h2 => .inl h2

/-- the stream of draws at o, asked at most n times -/
def StmO (o : Option (Addr × Addr)) (n : Nat) (H : Hp) : Prop := match o with
  | none => True
  | some (st, sl) => ∃ (ns : List Int) (c k m : Int), H st = some (.lst [.ref sl, .int c, .int k, .int m]) ∧ H sl = some (.lst (ns.map V.int)) ∧ 0 ≤ c ∧ 0 ≤ k ∧ k ≤ n ∧ 0 ≤ m ∧ m < 2147483647 ∧ sl ≠ st
/-- .. and the tables of code objects -/
structure Stm (z : Zn) (n : Nat) (H : Hp) : Prop where
  s : StmO z.st n H
  t : LamX.Tabs z.T H
theorem StmO.lst {o : Option (Addr × Addr)} {n : Nat} {H : Hp} (h : StmO o n H) {b : Addr} (hb : Sv o b) : ∃ xs, H b = some (.lst xs) := by
  cases o with
  | none => exact hb.elim
  | some p =>
    obtain ⟨st, sl⟩ := p
    obtain ⟨ns, c, k, m, h1, h2, _⟩ := h
    rcases hb with q | q
    · exact ⟨_, by rw [q]; exact h1⟩
    · exact ⟨_, by rw [q]; exact h2⟩
theorem Stm.kind {z : Zn} {n : Nat} {H : Hp} (h : Stm z n H) {b : Addr} (hb : Zv z b) : (∃ xs, H b = some (.lst xs)) ∨ ∃ ps, H b = some (.tbl ps) := by
  rcases hb with q | ⟨q, hq⟩
  · exact .inl (h.s.lst q)
  · obtain ⟨ps, e, _⟩ := h.t _ hq
    exact .inr ⟨ps, e⟩
theorem Stm.there {z : Zn} {n : Nat} {H : Hp} (h : Stm z n H) {b : Addr} (hb : Zv z b) : H b ≠ none := by
  rcases h.kind hb with ⟨_, e⟩ | ⟨_, e⟩ <;> rw [e] <;> simp
theorem StmO.ex {o : Option (Addr × Addr)} {n : Nat} {H H' : Hp} (e : Ex H H') (h : StmO o n H) : StmO o n H' := by
  cases o with
  | none => trivial
  | some p =>
    obtain ⟨st, sl⟩ := p
    obtain ⟨ns, c, k, m, h1, h2, r⟩ := h
    exact ⟨ns, c, k, m, e _ _ h1, e _ _ h2, r⟩
theorem Stm.ex {z : Zn} {n : Nat} {H H' : Hp} (e : Ex H H') (h : Stm z n H) : Stm z n H' := ⟨h.s.ex e, h.t.ext e⟩
theorem Stm.upd {z : Zn} {n : Nat} {H : Hp} {p : Addr} {o : HO} (h : Stm z n H) (hp : ¬ Zv z p) (hx : ∀ φ, H p ≠ some (.ext φ)) : Stm z n (upd H p o) where
  s := by
    obtain ⟨⟨so, T, W⟩, hs, ht⟩ : ∃ z' : Zn, Stm z n H ∧ z' = z := ⟨z, h, rfl⟩
    subst ht
    have hs := hs.s
    cases so with
    | none => trivial
    | some q =>
      obtain ⟨st, sl⟩ := q
      obtain ⟨ns, c, k, m, h1, h2, r⟩ := hs
      exact ⟨ns, c, k, m, by rw [upd_ne (fun e => hp (Or.inl (Or.inl e.symm)))]; exact h1, by rw [upd_ne (fun e => hp (Or.inl (Or.inr e.symm)))]; exact h2, r⟩
  t := fun q hq => by
    obtain ⟨ps, e, r1, r2⟩ := h.t q hq
    have hne : q.1 ≠ p := fun z => hp (Or.inr ⟨q.2, by rw [← z]; exact hq⟩)
    refine ⟨ps, by rw [upd_ne hne]; exact e, r1, fun pos cv hc => ?_⟩
    obtain ⟨c, e1, e2⟩ := r2 pos cv hc
    refine ⟨c, e1, ?_⟩
    have : c ≠ p := fun z => hx _ (by rw [← z]; exact e2)
    rw [upd_ne this]
    exact e2
theorem Stm.new {z : Zn} {n : Nat} {H : Hp} {p : Addr} {o : HO} (h : Stm z n H) (hp : H p = none) : Stm z n (L2.upd H p o) := h.upd (fun q => h.there q hp) (fun _ q => by rw [hp] at q; cases q)
theorem Stm.off {z : Zn} {n : Nat} {F H F1 H1 : Hp} (hs : Stm z n H1) (g : Grow z F H F1 H1) {b : Addr} (hb : Zv z b) (h : H b ≠ none) (hf : F b = none) : F1 b = none := by
  rcases g.new b h hf with q | ⟨xs, q⟩
  · exact q
  · have e2 := g.sub b _ q
    rcases hs.kind hb with ⟨ys, e⟩ | ⟨ys, e⟩
    · rw [e] at e2; cases e2
    · rw [e] at e2; cases e2
/-- behind a callee with the same stream and no tables -/
theorem Stm.widen {z z' : Zn} {n n' : Nat} {F H F1 H1 : Hp} (h0 : Stm z n H) (g : Grow z' F H F1 H1) (h1 : Stm z' n' H1) (es : z'.st = z.st) (et : z'.T = []) : Stm z n' H1 where
  s := by rw [← es]; exact h1.s
  t := fun q hq => by
    obtain ⟨ps, e, r1, r2⟩ := h0.t q hq
    have nz : ∀ b o, H b = some o → (∀ xs, o ≠ .lst xs) → ¬ Zv z' b := fun b o e1 e2 hz => by
      rcases hz with hz | ⟨_, hz⟩
      · rw [es] at hz
        obtain ⟨xs, e3⟩ := h0.s.lst hz
        rw [e1] at e3
        exact e2 xs (Option.some.inj e3)
      · rw [et] at hz; cases hz
    refine ⟨ps, g.keep _ _ (nz _ _ e (fun _ q => nomatch q)) e, r1, fun pos cv hc => ?_⟩
    obtain ⟨c, e1, e2⟩ := r2 pos cv hc
    exact ⟨c, e1, g.keep _ _ (nz _ _ e2 (fun xs q => by unfold LamX.CodeO at q; cases q)) e2⟩
/-! ### slots -/
inductive S where
  | no
  | val (d : PyData)
  | vat (v : V) (d : PyData)
  | own (ds : List PyData)
  | ownD (es : List (PyData × PyData))
  | stm
def S.dat : S → Option PyData
  | .val d => some d
  | .vat _ d => some d
  | _ => none
@[simp] theorem S.dat_no : S.dat .no = none := rfl
@[simp] theorem S.dat_val (d : PyData) : S.dat (.val d) = some d := rfl
@[simp] theorem S.dat_vat (v : V) (d : PyData) : S.dat (.vat v d) = some d := rfl
@[simp] theorem S.dat_own (ds : List PyData) : S.dat (.own ds) = none := rfl
@[simp] theorem S.dat_ownD (es : List (PyData × PyData)) : S.dat (.ownD es) = none := rfl
@[simp] theorem S.dat_stm : S.dat .stm = none := rfl
def S.owns : S → Bool
  | .own _ => true
  | .ownD _ => true
  | _ => false
/-- at l stands the dict es, of the def's own -/
def DAt (F H : Hp) (l : Addr) (es : List (PyData × PyData)) : Prop := (∃ kvs, H l = some (.dK kvs) ∧ RpK F kvs es) ∨ ∃ kvs, H l = some (.dT kvs) ∧ kvs ≠ [] ∧ RpT F kvs es
theorem DAt.there {F H : Hp} {l : Addr} {es : List (PyData × PyData)} (h : DAt F H l es) : H l ≠ none := by
  rcases h with ⟨_, e, _⟩ | ⟨_, e, _⟩ <;> rw [e] <;> simp
theorem DAt.apart {z : Zn} {F H F' H' : Hp} {l : Addr} {es : List (PyData × PyData)} (h : DAt F H l es) (g : Grow z F H F' H') (hz : ¬ Zv z l) (hf : F l = none) : F' l = none := by
  rcases h with ⟨kvs, a, r⟩ | ⟨kvs, a, n, r⟩
  · exact g.apart a hz (fun _ q => nomatch q) hf
  · exact g.apart a hz (fun _ q => nomatch q) hf
theorem DAt.grow {F H F' H' : Hp} {l : Addr} {es : List (PyData × PyData)} (h : DAt F H l es) (e : Ex F F') (k : ∀ o, H l = some o → H' l = some o) : DAt F' H' l es := by
  rcases h with ⟨kvs, a, r⟩ | ⟨kvs, a, n, r⟩
  · exact .inl ⟨kvs, k _ a, r.mono e⟩
  · exact .inr ⟨kvs, k _ a, n, r.mono e⟩
structure En where
  s : List S
  n : Nat
def SR (z : Zn) (B F H : Hp) (o : Option V) : S → Prop
  | .no => True
  | .val d => ∃ v, o = some v ∧ Rp F v d
  | .vat v d => o = some v ∧ Rp F v d
  | .own ds => ∃ l xs, o = some (.ref l) ∧ F l = none ∧ ¬ Zv z l ∧ H l = some (.lst xs) ∧ RpA F xs ds ∧ B l = none
  | .ownD es => ∃ l, o = some (.ref l) ∧ F l = none ∧ ¬ Zv z l ∧ DAt F H l es ∧ B l = none
  | .stm => ∃ a b, z.st = some (a, b) ∧ o = some (.ref a)
structure Sit (z : Zn) (B : Hp) (σ : L2.St) (H F : Hp) (en : En) : Prop where
  sub : Ex F H
  stm : Stm z en.n H
  off : ∀ b, Zv z b → F b = none
  len : σ.length = en.s.length
  slot : ∀ (i : Nat) (s : S), en.s[i]? = some s → ∃ o, σ[i]? = some o ∧ SR z B F H o s
  sep : ∀ (i j : Nat) (a b : S) (l : Addr), i ≠ j → en.s[i]? = some a → en.s[j]? = some b → a.owns = true → b.owns = true → σ[i]? = some (some (V.ref l)) → σ[j]? ≠ some (some (V.ref l))
theorem SR.grow {z : Zn} {B F H F' H' : Hp} {o : Option V} {s : S} (h : SR z B F H o s) (g : Grow z F H F' H') : SR z B F' H' o s := by
  cases s with
  | no => trivial
  | val d => obtain ⟨v, e, r⟩ := h; exact ⟨v, e, r.mono g.ext⟩
  | vat v d => exact ⟨h.1, h.2.mono g.ext⟩
  | own ds =>
    obtain ⟨l, xs, e, h1, h2, h3, h4, h5⟩ := h
    exact ⟨l, xs, e, g.apart h3 h2 (fun _ q => nomatch q) h1, h2, g.keep _ _ h2 h3, h4.mono g.ext, h5⟩
  | ownD es =>
    obtain ⟨l, e, h1, h2, h3, h5⟩ := h
    exact ⟨l, e, h3.apart g h2 h1, h2, h3.grow g.ext fun o => g.keep _ o h2, h5⟩
  | stm => exact h
theorem Sit.grow {z : Zn} {B : Hp} {σ : L2.St} {H F H' F' : Hp} {en : En} {n' : Nat} (t : Sit z B σ H F en) (g : Grow z F H F' H') (hs : Stm z n' H') : Sit z B σ H' F' ⟨en.s, n'⟩ where
  sub := g.sub
  stm := hs
  off := fun b hb => hs.off g hb (t.stm.there hb) (t.off b hb)
  len := t.len
  slot := fun i s e => by
    obtain ⟨o, h1, h2⟩ := t.slot i s e
    exact ⟨o, h1, h2.grow g⟩
  sep := t.sep
theorem Sit.datV {z : Zn} {B : Hp} {σ : L2.St} {H F : Hp} {en : En} {i : Nat} {u : S} {d : PyData} (t : Sit z B σ H F en) (h : en.s[i]? = some u) (hd : u.dat = some d) : ∃ o, σ[i]? = some o ∧ ∃ v, o = some v ∧ Rp F v d := by
  obtain ⟨o, h3, h4⟩ := t.slot i _ h
  cases u with
  | val d' =>
    cases hd
    exact ⟨o, h3, h4⟩
  | vat v d' =>
    cases hd
    exact ⟨o, h3, v, h4⟩
  | _ => cases hd
/-- a slot gets a value -/
theorem Sit.set {z : Zn} {B : Hp} {σ : L2.St} {H F : Hp} {en : En} {v : V} {d : PyData} (t : Sit z B σ H F en) (i : Nat) (r : Rp F v d) : Sit z B (σ.set i (some v)) H F ⟨en.s.set i (.val d), en.n⟩ where
  sub := t.sub
  stm := t.stm
  off := t.off
  len := by simpa using t.len
  slot := fun j s e => by
    by_cases hj : i = j
    · subst hj
      have hl : i < en.s.length := by
        have := (List.getElem?_eq_some_iff.mp e).1
        simpa using this
      rw [List.getElem?_set_self hl] at e
      cases e
      exact ⟨some v, by rw [List.getElem?_set_self (by rw [t.len]; exact hl)], v, rfl, r⟩
    · rw [List.getElem?_set_ne hj] at e ⊢
      exact t.slot j s e
  sep := fun j k a b l hjk h1 h2 o1 o2 h3 => by
    by_cases hj : i = j
    · subst hj
      have hl : i < en.s.length := by
        have := (List.getElem?_eq_some_iff.mp h1).1
        simpa using this
      simp only [List.getElem?_set_self hl] at h1
      cases h1
      exact absurd o1 Bool.false_ne_true
    · by_cases hk : i = k
      · subst hk
        have hl : i < en.s.length := by
          have := (List.getElem?_eq_some_iff.mp h2).1
          simpa using this
        simp only [List.getElem?_set_self hl] at h2
        cases h2
        exact absurd o2 Bool.false_ne_true
      · simp only [List.getElem?_set_ne hj] at h1 h3
        simp only [List.getElem?_set_ne hk] at h2 ⊢
        exact t.sep j k a b l hjk h1 h2 o1 o2 h3
/-- a slot gets nothing (forgotten) -/
theorem Sit.wipe1 {z : Zn} {B : Hp} {σ : L2.St} {H F : Hp} {en : En} (t : Sit z B σ H F en) (i : Nat) : Sit z B (σ.set i none) H F ⟨en.s.set i .no, en.n⟩ where
  sub := t.sub
  stm := t.stm
  off := t.off
  len := by simpa using t.len
  slot := fun j s e => by
    by_cases hj : i = j
    · subst hj
      have hl : i < en.s.length := by
        have := (List.getElem?_eq_some_iff.mp e).1
        simpa using this
      rw [List.getElem?_set_self hl] at e
      cases e
      exact ⟨none, by rw [List.getElem?_set_self (by rw [t.len]; exact hl)], trivial⟩
    · rw [List.getElem?_set_ne hj] at e ⊢
      exact t.slot j s e
  sep := fun j k a b l hjk h1 h2 o1 o2 h3 => by
    by_cases hj : i = j
    · subst hj
      have hl : i < en.s.length := by
        have := (List.getElem?_eq_some_iff.mp h1).1
        simpa using this
      simp only [List.getElem?_set_self hl] at h1
      cases h1
      exact absurd o1 Bool.false_ne_true
    · by_cases hk : i = k
      · subst hk
        have hl : i < en.s.length := by
          have := (List.getElem?_eq_some_iff.mp h2).1
          simpa using this
        simp only [List.getElem?_set_self hl] at h2
        cases h2
        exact absurd o2 Bool.false_ne_true
      · simp only [List.getElem?_set_ne hj] at h1 h3
        simp only [List.getElem?_set_ne hk] at h2 ⊢
        exact t.sep j k a b l hjk h1 h2 o1 o2 h3
def wipeE (en : En) : List Nat → En
  | [] => en
  | v :: vs => ⟨(wipeE en vs).s.set v .no, en.n⟩
theorem wipeE_n (en : En) : ∀ vs, (wipeE en vs).n = en.n
  | [] => rfl
  | _ :: _ => rfl
theorem Sit.wipe {z : Zn} {B : Hp} {σ : L2.St} {H F : Hp} {en : En} (t : Sit z B σ H F en) : ∀ vs : List Nat, Sit z B (L2.wipe σ vs) H F (wipeE en vs)
  | [] => t
  | v :: vs => by
    have h := (t.wipe vs).wipe1 v
    rw [wipeE_n] at h
    exact h
/-- a slot gets a fresh object of its own -/
theorem Sit.setO {z : Zn} {B : Hp} {σ : L2.St} {H F : Hp} {en : En} {l : Addr} {u : S} (t : Sit z B σ H F en) (i : Nat) (ou : SR z B F H (some (.ref l)) u)
    (hn : ∀ (j : Nat) (b : S), j ≠ i → en.s[j]? = some b → b.owns = true → σ[j]? ≠ some (some (V.ref l))) : Sit z B (σ.set i (some (.ref l))) H F ⟨en.s.set i u, en.n⟩ where
  sub := t.sub
  stm := t.stm
  off := t.off
  len := by simpa using t.len
  slot := fun j s e => by
    by_cases hj : i = j
    · subst hj
      have hl : i < en.s.length := by
        have := (List.getElem?_eq_some_iff.mp e).1
        simpa using this
      rw [List.getElem?_set_self hl] at e
      cases e
      exact ⟨some (.ref l), by rw [List.getElem?_set_self (by rw [t.len]; exact hl)], ou⟩
    · rw [List.getElem?_set_ne hj] at e ⊢
      exact t.slot j s e
  sep := fun j k es fs m hjk e1 e2 o1 o2 e3 => by
    by_cases hj : i = j
    · subst hj
      have hl : i < σ.length := by
        have := (List.getElem?_eq_some_iff.mp e3).1
        simpa using this
      simp only [List.getElem?_set_self hl] at e3
      cases e3
      simp only [List.getElem?_set_ne hjk] at e2 ⊢
      exact hn k fs (Ne.symm hjk) e2 o2
    · simp only [List.getElem?_set_ne hj] at e1 e3
      by_cases hk : i = k
      · subst hk
        have hl : i < en.s.length := by
          have := (List.getElem?_eq_some_iff.mp e2).1
          simpa using this
        simp only [List.getElem?_set_self (show i < σ.length by rw [t.len]; exact hl)]
        intro q
        cases q
        exact hn j es hjk e1 o1 e3
      · simp only [List.getElem?_set_ne hk] at e2 ⊢
        exact t.sep j k es fs m hjk e1 e2 o1 o2 e3
theorem Sit.setOwn {z : Zn} {B : Hp} {σ : L2.St} {H F : Hp} {en : En} {l : Addr} {xs : List V} {ds : List PyData} (t : Sit z B σ H F en) (i : Nat) (h1 : F l = none) (h2 : ¬ Zv z l) (h3 : H l = some (.lst xs)) (h4 : RpA F xs ds) (h5 : B l = none)
    (hn : ∀ (j : Nat) (b : S), j ≠ i → en.s[j]? = some b → b.owns = true → σ[j]? ≠ some (some (V.ref l))) : Sit z B (σ.set i (some (.ref l))) H F ⟨en.s.set i (.own ds), en.n⟩ := t.setO i ⟨l, xs, rfl, h1, h2, h3, h4, h5⟩ hn
/-- an own object stands somewhere -/
theorem Sit.ownAt {z : Zn} {B : Hp} {σ : L2.St} {H F : Hp} {en : En} {j : Nat} {b : S} {l : Addr} (t : Sit z B σ H F en) (h : en.s[j]? = some b) (hb : b.owns = true) (hl : σ[j]? = some (some (V.ref l))) : H l ≠ none := by
  obtain ⟨o, h1, h2⟩ := t.slot j b h
  rw [hl] at h1
  cases h1
  cases b with
  | own ds => obtain ⟨m, ys, q, _, _, e, _⟩ := h2; cases q; rw [e]; simp
  | ownD es => obtain ⟨m, q, _, _, e, _⟩ := h2; cases q; exact e.there
  | _ => exact absurd hb Bool.false_ne_true
theorem Sit.ownKind {z : Zn} {B : Hp} {σ : L2.St} {H F : Hp} {en : En} {j : Nat} {b : S} {l : Addr} (t : Sit z B σ H F en) (h : en.s[j]? = some b) (hb : b.owns = true) (hl : σ[j]? = some (some (V.ref l))) : ∀ φ, H l ≠ some (.ext φ) := by
  obtain ⟨o, h1, h2⟩ := t.slot j b h
  rw [hl] at h1
  cases h1
  intro φ q
  cases b with
  | own ds => obtain ⟨m, ys, e0, _, _, e, _⟩ := h2; cases e0; rw [e] at q; cases q
  | ownD es =>
    obtain ⟨m, e0, _, _, e, _⟩ := h2
    cases e0
    rcases e with ⟨_, e, _⟩ | ⟨_, e, _⟩ <;> rw [e] at q <;> cases q
  | _ => exact absurd hb Bool.false_ne_true
/-- an own object is frozen -/
theorem Sit.frz {z : Zn} {B : Hp} {σ : L2.St} {H F : Hp} {en : En} {i : Nat} {a : S} {l : Addr} {o : HO} {d : PyData} (s : Sit z B σ H F en) (h : en.s[i]? = some a) (ha : a.owns = true) (h1 : σ[i]? = some (some (.ref l))) (h2 : F l = none) (h3 : ¬ Zv z l) (h4 : H l = some o)
    (r : ∀ F', Ex F F' → F' l = some o → Rp F' (.ref l) d) : Sit z B σ H (upd F l o) ⟨en.s.set i (.val d), en.n⟩ := by
  have hi : i < en.s.length := (List.getElem?_eq_some_iff.mp h).1
  have eF : Ex F (upd F l o) := fun b u e => by rw [upd_ne (ne_of_none e h2)]; exact e
  exact {
    sub := fun b u e => by
      by_cases hb : b = l
      · subst hb; rw [upd_same] at e; cases e; exact h4
      · rw [upd_ne hb] at e; exact s.sub b u e
    stm := s.stm
    off := fun b hb => by
      have hbl : b ≠ l := fun q => h3 (by rw [← q]; exact hb)
      rw [upd_ne hbl]; exact s.off b hb
    len := by simpa using s.len
    slot := fun j t e => by
      by_cases hj : i = j
      · subst hj
        simp only [List.getElem?_set_self hi] at e
        cases e
        exact ⟨_, h1, .ref l, rfl, r _ eF upd_same⟩
      · simp only [List.getElem?_set_ne hj] at e
        obtain ⟨o', e1, e2⟩ := s.slot j t e
        refine ⟨o', e1, ?_⟩
        cases t with
        | no => trivial
        | val d => obtain ⟨v, a, r⟩ := e2; exact ⟨v, a, r.mono eF⟩
        | vat v d => exact ⟨e2.1, e2.2.mono eF⟩
        | own es =>
          obtain ⟨m, ys, a1, a2, a3, a4, a5, a6⟩ := e2
          have hm : m ≠ l := fun q => by
            subst q
            subst a1
            exact s.sep i j _ _ m hj h e ha rfl h1 e1
          exact ⟨m, ys, a1, by rw [upd_ne hm]; exact a2, a3, a4, a5.mono eF, a6⟩
        | ownD es =>
          obtain ⟨m, a1, a2, a3, a4, a6⟩ := e2
          have hm : m ≠ l := fun q => by
            subst q
            subst a1
            exact s.sep i j _ _ m hj h e ha rfl h1 e1
          exact ⟨m, a1, by rw [upd_ne hm]; exact a2, a3, a4.grow eF fun _ q => q, a6⟩
        | stm => exact e2
    sep := fun j k es fs m hjk e1 e2 o1 o2 e3 => by
      by_cases hj : i = j
      · subst hj
        simp only [List.getElem?_set_self hi] at e1
        cases e1
        exact absurd o1 Bool.false_ne_true
      · by_cases hk : i = k
        · subst hk
          simp only [List.getElem?_set_self hi] at e2
          cases e2
          exact absurd o2 Bool.false_ne_true
        · simp only [List.getElem?_set_ne hj] at e1
          simp only [List.getElem?_set_ne hk] at e2
          exact s.sep j k es fs m hjk e1 e2 o1 o2 e3 }
/-- an own object is changed -/
theorem Sit.rewrite {z : Zn} {B : Hp} {σ : L2.St} {H F : Hp} {en : En} {i : Nat} {a u : S} {l : Addr} {o : HO} (s : Sit z B σ H F en) (h : en.s[i]? = some a) (ha : a.owns = true) (hu : u.owns = true) (hl : σ[i]? = some (some (.ref l))) (h2 : F l = none) (h3 : ¬ Zv z l)
    (r : SR z B F (upd H l o) (some (.ref l)) u) : Sit z B σ (upd H l o) F ⟨en.s.set i u, en.n⟩ := by
  have hi : i < en.s.length := (List.getElem?_eq_some_iff.mp h).1
  exact {
    sub := fun b u q => by
      rw [upd_ne (ne_of_none q h2)]
      exact s.sub b u q
    stm := s.stm.upd h3 (s.ownKind h ha hl)
    off := s.off
    len := by simpa using s.len
    slot := fun j x q => by
      by_cases hj : i = j
      · subst hj
        simp only [List.getElem?_set_self hi] at q
        cases q
        exact ⟨_, hl, r⟩
      · simp only [List.getElem?_set_ne hj] at q
        obtain ⟨o', a1, a2⟩ := s.slot j x q
        refine ⟨o', a1, ?_⟩
        cases x with
        | no => trivial
        | val d => exact a2
        | vat v d => exact a2
        | own fs =>
          obtain ⟨m, zs, b1, b2, b3, b4, b5, b6⟩ := a2
          have hm : m ≠ l := fun q2 => by
            subst q2
            subst b1
            exact s.sep i j _ _ m hj h q ha rfl hl a1
          exact ⟨m, zs, b1, b2, b3, by rw [upd_ne hm]; exact b4, b5, b6⟩
        | ownD fs =>
          obtain ⟨m, b1, b2, b3, b4, b6⟩ := a2
          have hm : m ≠ l := fun q2 => by
            subst q2
            subst b1
            exact s.sep i j _ _ m hj h q ha rfl hl a1
          exact ⟨m, b1, b2, b3, b4.grow (fun _ _ q => q) fun o q => by rw [upd_ne hm]; exact q, b6⟩
        | stm => exact a2
    sep := fun j k fs gs m hjk q1 q2 o1 o2 q3 => by
      have key : ∀ (j : Nat) (b : S), (en.s.set i u)[j]? = some b → b.owns = true → ∃ c, en.s[j]? = some c ∧ c.owns = true := fun j b q ob => by
        by_cases hj : i = j
        · subst hj; exact ⟨a, h, ha⟩
        · simp only [List.getElem?_set_ne hj] at q; exact ⟨b, q, ob⟩
      obtain ⟨f1, g1, p1⟩ := key j fs q1 o1
      obtain ⟨f2, g2, p2⟩ := key k gs q2 o2
      exact s.sep j k f1 f2 m hjk g1 g2 p1 p2 q3 }
end DD
/-! The Deep layer, 2: what an expression means by data (w), and the rules. -/
namespace DD
open PySem PySem.Spec PyProof.Rows L2
open Evl (Ex)

abbrev WE := En → (PyData → Nat → Prop) → Prop
abbrev WT := En → (Bool → Nat → Prop) → Prop
abbrev WA := En → (List PyData → Nat → Prop) → Prop
def Den (z : Zn) (t : TE) (w : WE) : Prop := ∀ (B : Hp) (σ : L2.St) (H F : Hp) (en : En), Sit z B σ H F en → ∀ (P : PyData → Nat → Prop) (Q : VK), w en P →
  (∀ v H' F' d n, Grow z F H F' H' → Stm z n H' → Rp F' v d → P d n → Q v H') → t σ H Q
def DenT (z : Zn) (t : TT) (w : WT) : Prop := ∀ (B : Hp) (σ : L2.St) (H F : Hp) (en : En), Sit z B σ H F en → ∀ (P : Bool → Nat → Prop) (Q : Bool → Hp → Prop), w en P →
  (∀ b H' F' n, Grow z F H F' H' → Stm z n H' → P b n → Q b H') → t σ H Q
def DenA (z : Zn) (t : TA) (w : WA) : Prop := ∀ (B : Hp) (σ : L2.St) (H F : Hp) (en : En), Sit z B σ H F en → ∀ (P : List PyData → Nat → Prop) (Q : List V → Hp → Prop), w en P →
  (∀ vs H' F' ds n, Grow z F H F' H' → Stm z n H' → RpA F' vs ds → P ds n → Q vs H') → t σ H Q
/-- a fresh list, of its own -/
def DenL (z : Zn) (t : TE) (w : WA) : Prop := ∀ (B : Hp) (σ : L2.St) (H F : Hp) (en : En), Sit z B σ H F en → ∀ (P : List PyData → Nat → Prop) (Q : VK), w en P →
  (∀ l xs H' F' ds n, Grow z F H F' H' → Stm z n H' → H l = none → F' l = none → H' l = some (.lst xs) → RpA F' xs ds → P ds n → Q (.ref l) H') → t σ H Q
structure JE (z : Zn) (X : Cx) (e : Expr) (t : TE) (w : WE) : Prop where
  pe : PE X e t
  de : Den z t w
structure JT (z : Zn) (X : Cx) (e : Expr) (t : TT) (w : WT) : Prop where
  pt : PT X e t
  de : DenT z t w
structure JW (z : Zn) (X : Cx) (e : Expr) (t : TT) (w : WT) : Prop where
  pw : PW X e t
  de : DenT z t w
structure JA (z : Zn) (X : Cx) (es : List Expr) (t : TA) (w : WA) : Prop where
  pa : PA X es t
  de : DenA z t w
structure JL (z : Zn) (X : Cx) (e : Expr) (t : TE) (w : WA) : Prop where
  pe : PE X e t
  de : DenL z t w

/-- an object that is in the heap, not frozen, is frozen from now on -/
theorem Grow.freeze {z : Zn} {F H F' H' : Hp} {l : Addr} {o : HO} (g : Grow z F H F' H') (hn : H l = none) (hl : H' l = some o) (hF : F' l = none) : Grow z F H (L2.upd F' l o) H' where
  keep := g.keep
  dom := g.dom
  ext := fun b u h => by
    have h1 := g.ext b u h
    rw [upd_ne (ne_of_none h1 hF)]; exact h1
  sub := fun b u h => by
    by_cases hb : b = l
    · subst hb; rw [upd_same] at h; cases h; exact hl
    · rw [upd_ne hb] at h; exact g.sub b u h
  new := fun b h1 h2 => by
    by_cases hb : b = l
    · subst hb; exact absurd hn h1
    · rw [upd_ne hb]; exact g.new b h1 h2
theorem ex_upd {F : Hp} {l : Addr} {o : HO} (h : F l = none) : Ex F (L2.upd F l o) := fun b u e => by rw [upd_ne (ne_of_none e h)]; exact e

section
variable {z : Zn} {X : Cx} {e a b : Expr} {t ta tb : TE} {pos p : Pos}
/-! ### names, constants -/
@[simp] def wVar (i : Nat) : WE := fun en P => ∃ s d, en.s[i]? = some s ∧ s.dat = some d ∧ P d en.n
theorem je_var (i : Nat) {x : Str} (hN : X.N[i]? = some x := by rfl) (hv : Vis X.env.scope x := by first | exact Or.inl rfl | exact Or.inr (Or.inl rfl) | exact Or.inr (Or.inr rfl)) (hd : (x == ("__debug__" : Str)) = false := by decide)
    (hcd : (x == ("__classdict__" : Str)) = false := by decide) : JE z X (.Name x pos) (tVar i) (wVar i) where
  pe := pe_var hN hv hd hcd
  de := fun B σ H F en t P Q hw k => by
    obtain ⟨u, d, h1, hd, h2⟩ := hw
    obtain ⟨o, h3, h4⟩ := t.slot i _ h1
    cases u with
    | val d' =>
      cases hd
      obtain ⟨v, rfl, r⟩ := h4
      exact ⟨v, h3, k v H F d en.n (Grow.refl t.sub) t.stm r h2⟩
    | vat v d' =>
      cases hd
      obtain ⟨rfl, r⟩ := h4
      exact ⟨v, h3, k v H F d en.n (Grow.refl t.sub) t.stm r h2⟩
    | _ => cases hd
@[simp] def wC (d : PyData) : WE := fun en P => P d en.n
theorem den_c {v : V} {d : PyData} (h : ∀ F, Rp F v d) : Den z (tC v) (wC d) := fun B σ H F en t P Q hw k => k v H F d en.n (Grow.refl t.sub) t.stm (h F) hw
theorem je_int {i : Int} {j} : JE z X (.Constant (.int i) j pos) (tC (.int i)) (wC (.int i)) := ⟨pe_int, den_c fun _ => .int i⟩
theorem je_bl {i : Bool} {j} : JE z X (.Constant (.bool i) j pos) (tC (.bl i)) (wC (.bool i)) := ⟨pe_bl, den_c fun _ => .bl i⟩
theorem je_non {j} : JE z X (.Constant .none j pos) (tC .non) (wC .none) := ⟨pe_non, den_c fun _ => .non⟩
theorem je_str {i : Str} {j} : JE z X (.Constant (.str i) j pos) (tC (.str i)) (wC (.str i)) := ⟨pe_str, den_c fun _ => .str i⟩

/-! ### argument lists -/
@[simp] def wNil : WA := fun en P => P [] en.n
@[simp] def wCons (w : WE) (r : WA) : WA := fun en P => w en fun d n => r ⟨en.s, n⟩ fun ds n' => P (d :: ds) n'
theorem ja_nil : JA z X [] tNil wNil := ⟨pa_nil, fun B σ H F en t P Q hw k => k [] H F [] en.n (Grow.refl t.sub) t.stm .nil hw⟩
theorem ja_cons {es : List Expr} {tr : TA} {w : WE} {wr : WA} (h : JE z X e t w) (hr : JA z X es tr wr) (hs : starEach (e :: es) X.env = (false, eval e X.env) :: starEach es X.env := by rfl) : JA z X (e :: es) (tCons t tr) (wCons w wr) where
  pa := pa_cons h.pe hr.pa hs
  de := fun B σ H F en s P Q hw k => by
    refine h.de B σ H F en s _ _ hw fun v H1 F1 d n1 g1 s1 r1 q1 => ?_
    refine hr.de B σ H1 F1 _ (s.grow g1 s1) _ _ q1 fun vs H2 F2 ds n2 g2 s2 r2 q2 => ?_
    exact k _ H2 F2 _ n2 (g1.trans g2) s2 (.cons (r1.mono g2.ext) r2) q2

/-! ### two operands -/
/-- an operation on two values, by data -/
def DenR (z : Zn) (r : R2) (f : PyData → PyData → (PyData → Prop) → Prop) : Prop := ∀ (H F : Hp) (x y : V) (d e : PyData) (P : PyData → Prop) (Q : VK), Ex F H → Rp F x d → Rp F y e → f d e P →
  (∀ v H' F' d', Grow z0 F H F' H' → Rp F' v d' → P d' → Q v H') → r x y H Q
@[simp] def wOp (f : PyData → PyData → (PyData → Prop) → Prop) (wa wb : WE) : WE := fun en P => wa en fun d n => wb ⟨en.s, n⟩ fun e n' => f d e fun r => P r n'
theorem den_op {r : R2} {f : PyData → PyData → (PyData → Prop) → Prop} {wa wb : WE} (hr : DenR z r f) (ha : Den z ta wa) (hb : Den z tb wb) : Den z (tOp r ta tb) (wOp f wa wb) := fun B σ H F en s P Q hw k => by
  refine ha B σ H F en s _ _ hw fun v H1 F1 d n1 g1 s1 r1 q1 => ?_
  refine hb B σ H1 F1 _ (s.grow g1 s1) _ _ q1 fun u H2 F2 e n2 g2 s2 r2 q2 => ?_
  refine hr H2 F2 v u d e _ _ g2.sub (r1.mono g2.ext) r2 q2 fun y H3 F3 d' g3 r3 q3 => ?_
  exact k y H3 F3 d' n2 ((g1.trans g2).trans g3.weak) (s2.ex g3.ex) r3 q3
theorem je_bin {op : Operator} {r : R2} {f : PyData → PyData → (PyData → Prop) → Prop} {wa wb : WE} (ho : OpR X (binaryOp op) r) (hr : DenR z r f) (ha : JE z X a ta wa) (hb : JE z X b tb wb) : JE z X (.BinOp a op b pos) (tOp r ta tb) (wOp f wa wb) :=
  ⟨pe_op ho ha.pe hb.pe, den_op hr ha.de hb.de⟩
theorem je_cmp {op : CmpOp} {r : R2} {f : PyData → PyData → (PyData → Prop) → Prop} {wa wb : WE} (ho : OpR X (compareOp op) r) (hr : DenR z r f) (ha : JE z X a ta wa) (hb : JE z X b tb wb) (hm : behindInMarks op b = false := by first | exact nomark _ | rfl) : JE z X (.Compare a [op] [b] pos) (tOp r ta tb) (wOp f wa wb) :=
  ⟨pe_cmpR ho ha.pe hb.pe hm, den_op hr ha.de hb.de⟩
theorem Grow.stay {F H : Hp} (e : Ex F H) : Grow z0 F H F H := Grow.refl e
@[simp] def fI (C : Int → Int → Prop) (g : Int → Int → PyData) : PyData → PyData → (PyData → Prop) → Prop := fun d e P => ∃ i j, d = .int i ∧ e = .int j ∧ C i j ∧ P (g i j)
@[simp] def fI0 (g : Int → Int → PyData) : PyData → PyData → (PyData → Prop) → Prop := fun d e P => ∃ i j, d = .int i ∧ e = .int j ∧ P (g i j)
theorem den_I0 {g : Int → Int → V} {h : Int → Int → PyData} (hg : ∀ F i j, Rp F (g i j) (h i j)) : DenR z (rI0 g) (fI0 h) := by
  intro H F x y d e P Q s rx ry hf k
  obtain ⟨i, j, rfl, rfl, q⟩ := hf
  cases rx
  cases ry
  exact ⟨i, j, rfl, rfl, k _ H F _ (Grow.stay s) (hg F i j) q⟩
theorem den_I {C : Int → Int → Prop} {g : Int → Int → V} {h : Int → Int → PyData} (hg : ∀ F i j, Rp F (g i j) (h i j)) : DenR z (rI C g) (fI C h) := by
  intro H F x y d e P Q s rx ry hf k
  obtain ⟨i, j, rfl, rfl, c, q⟩ := hf
  cases rx
  cases ry
  exact ⟨i, j, rfl, rfl, c, k _ H F _ (Grow.stay s) (hg F i j) q⟩
def kR (r : PySem.W.Frag → R2) : R2 := fun x y H Q => ∀ K, r K x y H Q
theorem kR_ok {f : Value → Value → Sem Value} {r : PySem.W.Frag → R2} (h : OpR X f (r X.K)) : OpR X f (kR r) := fun pins s σ H x y v u Q I rx ry q => h pins s σ H x y v u Q I rx ry (q X.K)
/-- == and != of data -/
@[simp] def fEq : PyData → PyData → (PyData → Prop) → Prop := fun d e P => okD d = true ∧ okD e = true ∧ P (.bool (PyData.eqv d e))
@[simp] def fNe : PyData → PyData → (PyData → Prop) → Prop := fun d e P => okD d = true ∧ okD e = true ∧ P (.bool (!PyData.eqv d e))
theorem okD_flat {d : PyData} (h : okD d = true) : flatD d = true ∧ SeqAt.shaped d = true := by
  unfold okD at h
  rwa [Bool.and_eq_true] at h
theorem den_eq : DenR z (kR rEqD) fEq := by
  intro H F x y d e P Q s rx ry hf k K
  obtain ⟨h1, h2, q⟩ := hf
  exact ⟨d, e, rx.dp s (okD_flat h1).1, ry.dp s (okD_flat h2).1, (okD_flat h1).2, (okD_flat h2).2, k _ H F _ (Grow.stay s) (.bl _) q⟩
theorem den_ne : DenR z (kR rNeD) fNe := by
  intro H F x y d e P Q s rx ry hf k K
  obtain ⟨h1, h2, q⟩ := hf
  exact ⟨d, e, rx.dp s (okD_flat h1).1, ry.dp s (okD_flat h2).1, (okD_flat h1).2, (okD_flat h2).2, k _ H F _ (Grow.stay s) (.bl _) q⟩
/-- in, not in a list -/
@[simp] def fIn : PyData → PyData → (PyData → Prop) → Prop := fun d e P => ∃ ds, e = .list ds ∧ okD d = true ∧ okD (.list ds) = true ∧ P (.bool (ds.any fun z => PyData.eqv z d))
@[simp] def fNotIn : PyData → PyData → (PyData → Prop) → Prop := fun d e P => ∃ ds, e = .list ds ∧ okD d = true ∧ okD (.list ds) = true ∧ P (.bool (!ds.any fun z => PyData.eqv z d))
theorem den_in : DenR z (kR rInD) fIn := by
  intro H F x y d e P Q s rx ry hf k K
  obtain ⟨ds, rfl, h1, h2, q⟩ := hf
  exact ⟨d, ds, rx.dp s (okD_flat h1).1, ry.dp s (okD_flat h2).1, (okD_flat h1).2, (okD_flat h2).2, k _ H F _ (Grow.stay s) (.bl _) q⟩
theorem den_notIn : DenR z (kR rNotInD) fNotIn := by
  intro H F x y d e P Q s rx ry hf k K
  obtain ⟨ds, rfl, h1, h2, q⟩ := hf
  exact ⟨d, ds, rx.dp s (okD_flat h1).1, ry.dp s (okD_flat h2).1, (okD_flat h1).2, (okD_flat h2).2, k _ H F _ (Grow.stay s) (.bl _) q⟩
/-! ints -/
section
variable {wa wb : WE}
theorem je_add (ha : JE z X a ta wa) (hb : JE z X b tb wb) : JE z X (.BinOp a .Add b pos) (tOp (rI0 fun i j => .int (i + j)) ta tb) (wOp (fI0 fun i j => .int (i + j)) wa wb) := je_bin op_add (den_I0 fun _ _ _ => .int _) ha hb
theorem je_sub (ha : JE z X a ta wa) (hb : JE z X b tb wb) : JE z X (.BinOp a .Sub b pos) (tOp (rI0 fun i j => .int (i - j)) ta tb) (wOp (fI0 fun i j => .int (i - j)) wa wb) := je_bin op_sub (den_I0 fun _ _ _ => .int _) ha hb
theorem je_mul (ha : JE z X a ta wa) (hb : JE z X b tb wb) : JE z X (.BinOp a .Mult b pos) (tOp (rI CMul fun i j => .int (i * j)) ta tb) (wOp (fI CMul fun i j => .int (i * j)) wa wb) := je_bin op_mul (den_I fun _ _ _ => .int _) ha hb
theorem je_lt (ha : JE z X a ta wa) (hb : JE z X b tb wb) : JE z X (.Compare a [.Lt] [b] pos) (tOp (rI0 fun i j => .bl (decide (i < j))) ta tb) (wOp (fI0 fun i j => .bool (decide (i < j))) wa wb) := je_cmp op_lt (den_I0 fun _ _ _ => .bl _) ha hb
theorem je_le (ha : JE z X a ta wa) (hb : JE z X b tb wb) : JE z X (.Compare a [.LtE] [b] pos) (tOp (rI0 fun i j => .bl (decide (i ≤ j))) ta tb) (wOp (fI0 fun i j => .bool (decide (i ≤ j))) wa wb) := je_cmp op_le (den_I0 fun _ _ _ => .bl _) ha hb
theorem je_gt (ha : JE z X a ta wa) (hb : JE z X b tb wb) : JE z X (.Compare a [.Gt] [b] pos) (tOp (rI0 fun i j => .bl (decide (j < i))) ta tb) (wOp (fI0 fun i j => .bool (decide (j < i))) wa wb) := je_cmp op_gt (den_I0 fun _ _ _ => .bl _) ha hb
theorem je_ge (ha : JE z X a ta wa) (hb : JE z X b tb wb) : JE z X (.Compare a [.GtE] [b] pos) (tOp (rI0 fun i j => .bl (decide (j ≤ i))) ta tb) (wOp (fI0 fun i j => .bool (decide (j ≤ i))) wa wb) := je_cmp op_ge (den_I0 fun _ _ _ => .bl _) ha hb
theorem je_eq {k : Nat} (hr : Room k X.A) (ha : JE z X a ta wa) (hb : JE z X b tb wb) : JE z X (.Compare a [.Eq] [b] pos) (tOp (kR rEqD) ta tb) (wOp fEq wa wb) := je_cmp (kR_ok (op_eqD hr.units)) den_eq ha hb
theorem je_ne {k : Nat} (hr : Room k X.A) (ha : JE z X a ta wa) (hb : JE z X b tb wb) : JE z X (.Compare a [.NotEq] [b] pos) (tOp (kR rNeD) ta tb) (wOp fNe wa wb) := je_cmp (kR_ok (op_neD hr.units)) den_ne ha hb
theorem units65 {k : Nat} {A : Around} (r : Room k A) : A.units + 65 < cLine := by have := r.un; omega
theorem je_in {k : Nat} (hr : Room k X.A) (ha : JE z X a ta wa) (hb : JE z X b tb wb) (hm : behindInMarks .In b = false := by first | exact nomark _ | rfl) : JE z X (.Compare a [.In] [b] pos) (tOp (kR rInD) ta tb) (wOp fIn wa wb) := je_cmp (kR_ok (op_inD (units65 hr))) den_in ha hb hm
theorem je_notIn {k : Nat} (hr : Room k X.A) (ha : JE z X a ta wa) (hb : JE z X b tb wb) (hm : behindInMarks .NotIn b = false := by first | exact nomark _ | rfl) : JE z X (.Compare a [.NotIn] [b] pos) (tOp (kR rNotInD) ta tb) (wOp fNotIn wa wb) := je_cmp (kR_ok (op_notInD (units65 hr))) den_notIn ha hb hm
/-- -n -/
@[simp] def wNeg (w : WE) : WE := fun en P => w en fun d n => ∃ i, d = .int i ∧ P (.int (-i)) n
theorem je_neg (ha : JE z X a ta wa) : JE z X (.UnaryOp .USub a pos) (tUn (rU fun i => .int (-i)) ta) (wNeg wa) where
  pe := pe_un un_neg ha.pe
  de := fun B σ H F en s P Q hw k => by
    refine ha.de B σ H F en s _ _ hw fun v H1 F1 d n1 g1 s1 r1 q1 => ?_
    obtain ⟨i, rfl, q⟩ := q1
    cases r1
    exact ⟨i, rfl, k _ H1 F1 _ n1 g1 s1 (.int _) q⟩
/-- is None, is not None -/
def noneD : PyData → Bool
  | .none => true
  | _ => false
@[simp] theorem noneD_0  : noneD PyData.none = true := rfl
@[simp] theorem noneD_1 (b : Bool) : noneD (.bool b) = false := rfl
@[simp] theorem noneD_2 (i : Int) : noneD (.int i) = false := rfl
@[simp] theorem noneD_3 (s : Str) : noneD (.str s) = false := rfl
@[simp] theorem noneD_4 (xs : List PyData) : noneD (.list xs) = false := rfl
@[simp] theorem noneD_5 (xs : List PyData) : noneD (.tuple xs) = false := rfl
@[simp] theorem noneD_6 (es : List (PyData × PyData)) : noneD (.dict es) = false := rfl
@[simp] def wIsN (w : WE) : WE := fun en P => w en fun d n => P (.bool (noneD d)) n
@[simp] def wNotN (w : WE) : WE := fun en P => w en fun d n => P (.bool (!noneD d)) n
theorem Rp.isN {F : Hp} {v : V} {d : PyData} (r : Rp F v d) : decide (v = .non) = noneD d := by
  cases r <;> first | rfl | (exact decide_eq_false (fun q => nomatch q))
theorem je_isN {j} (ha : JE z X a ta wa) : JE z X (.Compare a [.Is] [.Constant .none j p] pos) (tIsN ta) (wIsN wa) where
  pe := pe_cmp (pc_isN ha.pe) rfl
  de := fun B σ H F en s P Q hw k => by
    refine ha.de B σ H F en s _ _ hw fun v H1 F1 d n1 g1 s1 r1 q1 => ?_
    show Q (.bl (decide (v = .non))) H1
    rw [r1.isN]
    exact k _ H1 F1 _ n1 g1 s1 (.bl _) q1
theorem je_notN {j} (ha : JE z X a ta wa) : JE z X (.Compare a [.IsNot] [.Constant .none j p] pos) (tNotN ta) (wNotN wa) where
  pe := pe_cmp (pc_notN ha.pe) rfl
  de := fun B σ H F en s P Q hw k => by
    refine ha.de B σ H F en s _ _ hw fun v H1 F1 d n1 g1 s1 r1 q1 => ?_
    show Q (.bl (!decide (v = .non))) H1
    rw [r1.isN]
    exact k _ H1 F1 _ n1 g1 s1 (.bl _) q1
end

/-! ### tests -/
section
variable {wa wb : WE} {tt tu : TT} {w u : WT}
@[simp] def wB (w : WE) : WT := fun en P => w en fun d n => ∃ b, d = .bool b ∧ P b n
theorem jt_b (h : JE z X e t wa) (he : ∀ whole : Sem Value, PySem.isTrue e X.env whole = (do let v ← whole; standAt e.pos; holding [v] (truthy v)) := by intro _; rfl) : JT z X e (tB t) (wB wa) where
  pt := pt_val h.pe (by intro w; exact he w)
  de := fun B σ H F en s P Q hw k => by
    refine h.de B σ H F en s _ _ hw fun v H1 F1 d n1 g1 s1 r1 q1 => ?_
    obtain ⟨b, rfl, q⟩ := q1
    cases r1
    exact ⟨b, rfl, k b H1 F1 n1 g1 s1 q⟩
@[simp] def wAnd (w u : WT) : WT := fun en P => w en fun b n => if b = true then u ⟨en.s, n⟩ P else P false n
@[simp] def wOr (w u : WT) : WT := fun en P => w en fun b n => if b = true then P true n else u ⟨en.s, n⟩ P
@[simp] def wNot (w : WT) : WT := fun en P => w en fun b n => P (!b) n
theorem den_and (h : DenT z tt w) (h' : DenT z tu u) : DenT z (tAnd tt tu) (wAnd w u) := fun B σ H F en s P Q hw k => by
  refine h B σ H F en s _ _ hw fun b H1 F1 n1 g1 s1 q1 => ?_
  cases b with
  | true => exact iteT (h' B σ H1 F1 _ (s.grow g1 s1) _ _ (by simpa using q1) fun c H2 F2 n2 g2 s2 q2 => k c H2 F2 n2 (g1.trans g2) s2 q2)
  | false => exact iteF (k false H1 F1 n1 g1 s1 (by simpa using q1))
theorem den_or (h : DenT z tt w) (h' : DenT z tu u) : DenT z (tOr tt tu) (wOr w u) := fun B σ H F en s P Q hw k => by
  refine h B σ H F en s _ _ hw fun b H1 F1 n1 g1 s1 q1 => ?_
  cases b with
  | false => exact iteF (h' B σ H1 F1 _ (s.grow g1 s1) _ _ (by simpa using q1) fun c H2 F2 n2 g2 s2 q2 => k c H2 F2 n2 (g1.trans g2) s2 q2)
  | true => exact iteT (k true H1 F1 n1 g1 s1 (by simpa using q1))
theorem den_not (h : DenT z tt w) : DenT z (tNot tt) (wNot w) := fun B σ H F en s P Q hw k =>
  h B σ H F en s _ _ hw fun b H1 F1 n1 g1 s1 q1 => k (!b) H1 F1 n1 g1 s1 q1
theorem jt_not (h : JT z X e tt w) : JT z X (.UnaryOp .Not e pos) (tNot tt) (wNot w) := ⟨pt_not h.pt, den_not h.de⟩
theorem jw_and {es : List Expr} (h : JT z X a tt w) (h' : JW z X (.BoolOp .And (b :: es) pos) tu u) : JW z X (.BoolOp .And (a :: b :: es) pos) (tAnd tt tu) (wAnd w u) := ⟨pw_and h.pt h'.pw, den_and h.de h'.de⟩
theorem jw_or {es : List Expr} (h : JT z X a tt w) (h' : JW z X (.BoolOp .Or (b :: es) pos) tu u) : JW z X (.BoolOp .Or (a :: b :: es) pos) (tOr tt tu) (wOr w u) := ⟨pw_or h.pt h'.pw, den_or h.de h'.de⟩
theorem jw_and1 (h : JT z X a tt w) : JW z X (.BoolOp .And [a] pos) tt w := ⟨pw_and1 h.pt, h.de⟩
theorem jw_or1 (h : JT z X a tt w) : JW z X (.BoolOp .Or [a] pos) tt w := ⟨pw_or1 h.pt, h.de⟩
theorem JW.jt (h : JW z X e tt w) : JT z X e tt w := ⟨h.pw.pt, h.de⟩
/-- values by and, or, not; all but the last of an and, or are True or False -/
@[simp] def wAndV (wa wb : WE) : WE := fun en P => wa en fun d n => ∃ c, d = .bool c ∧ if c = true then wb ⟨en.s, n⟩ P else P (.bool false) n
@[simp] def wOrV (wa wb : WE) : WE := fun en P => wa en fun d n => ∃ c, d = .bool c ∧ if c = true then P (.bool true) n else wb ⟨en.s, n⟩ P
@[simp] def wNotV (wa : WE) : WE := fun en P => wa en fun d n => ∃ c, d = .bool c ∧ P (.bool (!c)) n
theorem je_and {es : List Expr} (h : JE z X a ta wa) (h' : JE z X (.BoolOp .And (b :: es) pos) tb wb) : JE z X (.BoolOp .And (a :: b :: es) pos) (tAndV ta tb) (wAndV wa wb) where
  pe := pe_and h.pe h'.pe
  de := fun B σ H F en s P Q hw k => by
    refine h.de B σ H F en s _ _ hw fun v H1 F1 d n1 g1 s1 r1 q1 => ?_
    obtain ⟨c, rfl, q⟩ := q1
    cases r1
    refine ⟨c, rfl, ?_⟩
    cases c with
    | true => exact iteT (h'.de B σ H1 F1 _ (s.grow g1 s1) _ _ (by simpa using q) fun c H2 F2 d n2 g2 s2 r2 q2 => k c H2 F2 d n2 (g1.trans g2) s2 r2 q2)
    | false => exact iteF (k _ H1 F1 _ n1 g1 s1 (.bl _) (by simpa using q))
theorem je_or {es : List Expr} (h : JE z X a ta wa) (h' : JE z X (.BoolOp .Or (b :: es) pos) tb wb) : JE z X (.BoolOp .Or (a :: b :: es) pos) (tOrV ta tb) (wOrV wa wb) where
  pe := pe_or h.pe h'.pe
  de := fun B σ H F en s P Q hw k => by
    refine h.de B σ H F en s _ _ hw fun v H1 F1 d n1 g1 s1 r1 q1 => ?_
    obtain ⟨c, rfl, q⟩ := q1
    cases r1
    refine ⟨c, rfl, ?_⟩
    cases c with
    | false => exact iteF (h'.de B σ H1 F1 _ (s.grow g1 s1) _ _ (by simpa using q) fun c H2 F2 d n2 g2 s2 r2 q2 => k c H2 F2 d n2 (g1.trans g2) s2 r2 q2)
    | true => exact iteT (k _ H1 F1 _ n1 g1 s1 (.bl _) (by simpa using q))
theorem je_one {op : BoolOp} (h : JE z X a ta wa) : JE z X (.BoolOp op [a] pos) ta wa := ⟨pe_one h.pe, h.de⟩
theorem je_not (h : JE z X a ta wa) : JE z X (.UnaryOp .Not a pos) (tNotV ta) (wNotV wa) where
  pe := pe_not h.pe
  de := fun B σ H F en s P Q hw k => by
    refine h.de B σ H F en s _ _ hw fun v H1 F1 d n1 g1 s1 r1 q1 => ?_
    obtain ⟨c, rfl, q⟩ := q1
    cases r1
    exact ⟨c, rfl, k _ H1 F1 _ n1 g1 s1 (.bl _) q⟩
@[simp] def wIf (w : WT) (wa wb : WE) : WE := fun en P => w en fun c n => if c = true then wa ⟨en.s, n⟩ P else wb ⟨en.s, n⟩ P
theorem je_if {c : Expr} (h : JT z X c tt w) (ha : JE z X a ta wa) (hb : JE z X b tb wb) : JE z X (.IfExp c a b pos) (tIf tt ta tb) (wIf w wa wb) where
  pe := pe_ifExp h.pt ha.pe hb.pe
  de := fun B σ H F en s P Q hw k => by
    refine h.de B σ H F en s _ _ hw fun c H1 F1 n1 g1 s1 q1 => ?_
    cases c with
    | true => exact iteT (ha.de B σ H1 F1 _ (s.grow g1 s1) _ _ (by simpa using q1) fun c H2 F2 d n2 g2 s2 r2 q2 => k c H2 F2 d n2 (g1.trans g2) s2 r2 q2)
    | false => exact iteF (hb.de B σ H1 F1 _ (s.grow g1 s1) _ _ (by simpa using q1) fun c H2 F2 d n2 g2 s2 r2 q2 => k c H2 F2 d n2 (g1.trans g2) s2 r2 q2)
end

/-! ### displays, fresh lists -/
theorem JL.je {w : WA} (h : JL z X e t w) : JE z X e t (fun en P => w en fun ds n => P (.list ds) n) where
  pe := h.pe
  de := fun B σ H F en s P Q hw k => by
    refine h.de B σ H F en s _ _ hw fun l xs H1 F1 ds n1 g1 s1 hl hf hx r1 q1 => ?_
    exact k _ H1 _ _ n1 (g1.freeze hl hx hf) s1 (.lst upd_same (r1.mono (ex_upd hf))) q1
@[simp] def wLst (w : WA) : WA := fun en P => w en fun ds n => ds.length ≤ 100000 ∧ P ds n
@[simp] def wTup (w : WA) : WE := fun en P => w en fun ds n => ds.length ≤ 100000 ∧ P (.tuple ds) n
@[simp] def wAsL (w : WA) : WE := fun en P => w en fun ds n => P (.list ds) n
theorem JL.je' {w : WA} (h : JL z X e t w) : JE z X e t (wAsL w) := h.je
theorem zv_not {n : Nat} {H : Hp} {l : Addr} (s : Stm z n H) (h : H l = none) : ¬ Zv z l := fun q => s.there q h
theorem jl_lst {es : List Expr} {ta : TA} {w : WA} (h : JA z X es ta w) : JL z X (.List es pos) (tLst ta) (wLst w) where
  pe := pe_lst h.pa
  de := fun B σ H F en s P Q hw k => by
    refine h.de B σ H F en s _ _ hw fun vs H1 F1 ds n1 g1 s1 r1 q1 => ?_
    refine ⟨Evl.sz_of (by rw [r1.length]; exact q1.1), fun l hl => ?_⟩
    have hf : F1 l = none := by
      cases e : F1 l with
      | none => rfl
      | some o => rw [g1.sub l o e] at hl; cases hl
    exact k l vs _ F1 ds n1 (g1.trans (Grow.fresh g1.sub hl)) (s1.new hl) (g1.dom l hl) hf upd_same r1 q1.2
theorem je_tup {es : List Expr} {ta : TA} {w : WA} {x1} (h : JA z X es ta w) : JE z X (.Tuple es x1 pos) (tTup ta) (wTup w) where
  pe := pe_tup h.pa
  de := fun B σ H F en s P Q hw k => by
    refine h.de B σ H F en s _ _ hw fun vs H1 F1 ds n1 g1 s1 r1 q1 => ?_
    refine ⟨Evl.sz_of (by rw [r1.length]; exact q1.1), fun l hl => ?_⟩
    have hf : F1 l = none := by
      cases e : F1 l with
      | none => rfl
      | some o => rw [g1.sub l o e] at hl; cases hl
    exact k _ _ _ _ n1 (g1.trans (Grow.laid g1.sub hl)) (s1.new hl) (.tup upd_same (r1.mono (ex_upd hf))) q1.2
/-- the thing at d is locked, for good -/
def tLk (t : TE) : TE := fun σ H Q => t σ H fun v H1 => ∃ d u, H1 d = some u ∧ Mut (some u) ∧ ∀ od, Q v (L2.upd H1 d (.frz od u))
theorem pe_lk {e : Expr} {t : TE} (h : PE X e t) : PE X e (tLk t) := ⟨fun pins s σ H Q I hw => thn (h.run pins s σ H _ I hw) fun v s1 ⟨x, H1, I1, r, d, u, hd, mu, q⟩ => by
  obtain ⟨od, I2⟩ := I1.lock hd mu
  exact ⟨x, _, I2, r, q od⟩⟩
theorem upd_upd {H : Hp} {l : Addr} {a b : HO} : L2.upd (L2.upd H l a) l b = L2.upd H l b := by
  funext c
  by_cases hc : c = l
  · subst hc; rw [upd_same, upd_same]
  · rw [upd_ne hc, upd_ne hc, upd_ne hc]
/-- {} -/
theorem je_dict0 : JE z X (.Dict [] [] pos) (tLk tDNewK) (wC (.dict [])) where
  pe := pe_lk pe_dnewK
  de := fun B σ H F en s P Q hw k => by
    intro l hl
    refine ⟨l, _, upd_same, trivial, fun od => ?_⟩
    rw [upd_upd]
    exact k _ _ _ _ en.n (Grow.laid s.sub hl) (s.stm.new hl) (.dK upd_same .nil) hw

/-! ### borrowing an own list for a test -/
@[simp] def wBor (i : Nat) (w : WT) : WT := fun en P => ∃ ds, en.s[i]? = some (.own ds) ∧ w ⟨en.s.set i (.val (.list ds)), en.n⟩ P
theorem Sit.borrow {B : Hp} {σ : L2.St} {H F : Hp} {en : En} {i : Nat} {ds : List PyData} (s : Sit z B σ H F en) (h : en.s[i]? = some (.own ds)) :
    ∃ l xs, σ[i]? = some (some (.ref l)) ∧ F l = none ∧ ¬ Zv z l ∧ H l = some (.lst xs) ∧ RpA F xs ds ∧ Sit z B σ H (L2.upd F l (.lst xs)) ⟨en.s.set i (.val (.list ds)), en.n⟩ := by
  obtain ⟨o, h1, l, xs, rfl, h2, h3, h4, h5, h6⟩ := s.slot i _ h
  refine ⟨l, xs, h1, h2, h3, h4, h5, ?_⟩
  exact s.frz h rfl h1 h2 h3 h4 fun F' e q => .lst q (h5.mono e)
/-- what has grown over a borrowed list has grown over what stood ahead, nothing frozen -/
theorem Grow.unborrow {F H F' H' : Hp} {l : Addr} {xs : List V} (hF : F l = none) (e : Ex F H) (g : Grow z (L2.upd F l (.lst xs)) H F' H') : Grow z F H F H' where
  keep := g.keep
  dom := g.dom
  ext := Evl.Ex.refl F
  sub := fun b u h => g.sub b u (g.ext b u (by rw [upd_ne (ne_of_none h hF)]; exact h))
  new := fun b _ h => .inl h
theorem jt_bor {tt : TT} {w : WT} (i : Nat) (h : JT z X e tt w) : JT z X e tt (wBor i w) where
  pt := h.pt
  de := fun B σ H F en s P Q hw k => by
    obtain ⟨ds, h1, h2⟩ := hw
    obtain ⟨l, xs, e1, e2, e3, e4, e5, s'⟩ := s.borrow h1
    exact h.de B σ H _ _ s' _ _ h2 fun b H1 F1 n1 g1 s1 q1 => k b H1 F n1 (g1.unborrow e2 s.sub) s1 q1
/-- the same for a value that is no object -/
def atomD : PyData → Bool
  | .none => true
  | .bool _ => true
  | .int _ => true
  | .str _ => true
  | _ => false
@[simp] theorem atomD_0  : atomD PyData.none = true := rfl
@[simp] theorem atomD_1 (b : Bool) : atomD (.bool b) = true := rfl
@[simp] theorem atomD_2 (i : Int) : atomD (.int i) = true := rfl
@[simp] theorem atomD_3 (s : Str) : atomD (.str s) = true := rfl
@[simp] theorem atomD_4 (xs : List PyData) : atomD (.list xs) = false := rfl
@[simp] theorem atomD_5 (xs : List PyData) : atomD (.tuple xs) = false := rfl
@[simp] theorem atomD_6 (es : List (PyData × PyData)) : atomD (.dict es) = false := rfl
theorem Rp.atom {F F' : Hp} {v : V} {d : PyData} (r : Rp F v d) (h : atomD d = true) : Rp F' v d := by
  cases r <;> first | exact .non | exact .bl _ | exact .int _ | exact .str _ | (simp [atomD] at h)
@[simp] def wBorE (i : Nat) (w : WE) : WE := fun en P => ∃ ds, en.s[i]? = some (.own ds) ∧ w ⟨en.s.set i (.val (.list ds)), en.n⟩ fun d n => atomD d = true ∧ P d n
theorem je_bor {w : WE} (i : Nat) (h : JE z X e t w) : JE z X e t (wBorE i w) where
  pe := h.pe
  de := fun B σ H F en s P Q hw k => by
    obtain ⟨ds, h1, h2⟩ := hw
    obtain ⟨l, xs, e1, e2, e3, e4, e5, s'⟩ := s.borrow h1
    exact h.de B σ H _ _ s' _ _ h2 fun v H1 F1 d n1 g1 s1 r1 q1 => k v H1 F d n1 (g1.unborrow e2 s.sub) s1 (r1.atom q1.1) q1.2
end
end DD
/-! The Deep layer, 3: built-ins, subscripts, slices, comprehensions, calls of defs. -/
namespace DD
open PySem PySem.Spec PyProof.Rows L2
open Evl (Ex)

/-! ### readings for whatever is written: K is taken out -/
abbrev Fg := PySem.W.Frag
def kC (r : Fg → List V → Hp → VK → Prop) : List V → Hp → VK → Prop := fun vs H Q => ∀ K, r K vs H Q
theorem kC_ok {X : Cx} {f : Value} {r : Fg → List V → Hp → VK → Prop} (h : CallR X f (r X.K)) : CallR X f (kC r) := fun pins s σ H xs us Q I rs q => h pins s σ H xs us Q I rs (q X.K)
/-! ### kinds -/
def tyD : PyData → String
  | .none => "NoneType"
  | .bool _ => "bool"
  | .int _ => "int"
  | .str _ => "str"
  | .list _ => "list"
  | .tuple _ => "tuple"
  | .dict _ => "dict"
/-- what a value is of; locked dicts of tuple keys, too -/
inductive TyY (K : PySem.W.Frag) (H : Hp) : V → Value → Prop where
  | x {v : V} {t : Value} (h : TyX K H v t) : TyY K H v t
  | fT {a : Addr} {o : Obj} {kvs : List (List Key × V)} (e : H a = some (.frz o (.dT kvs))) : TyY K H (.ref a) (.type "dict")
theorem tyY_kit {X : Cx} {pins : List (Addr × Obj)} {σ : L2.St} {H : Hp} {s : Shared} {v : V} {u t : Value} (I : Inv X pins σ H s) (rv : RelV v u) (h : TyY X.K H v t) : ∃ Z : Heap → Prop, PySem.W.KitX X.K u t Z ∧ Z s.heap ∧ u ≠ .builtin "__main__.__loader__#opaque" := by
  cases h with
  | x h => exact kit_of I rv h
  | @fT a o kvs e =>
    cases (show u = Value.ref a from rv)
    obtain ⟨_, _, _, _, _, ob, _, _, g1, g2, _⟩ := I.hok a _ e
    exact ⟨_, PySem.W.kitx_dict, ⟨ob, g1, g2.1⟩, fun z => nomatch z⟩
def yIsi (K : PySem.W.Frag) : List V → Hp → VK → Prop := fun vs H Q => ∃ (v c : V) (t u : Value) (b : Bool), vs = [v, c] ∧ ClsV c u ∧ TyY K H v t ∧ PySem.W.kitOne K t u = some b ∧ Q (.bl b) H
def yIsiT (K : PySem.W.Frag) : List V → Hp → VK → Prop := fun vs H Q => ∃ (v : V) (a : Addr) (cs : List V) (t : Value) (us : List Value) (b : Bool), vs = [v, .ref a] ∧ H a = some (.tup cs) ∧ Paired ClsV cs us ∧ TyY K H v t ∧ PySem.W.kitAny K t us = some b ∧ Q (.bl b) H
theorem y_isi {X : Cx} : CallR X (.builtin "isinstance") (yIsi X.K) := fun pins s σ H vs us Q I r h => by
  obtain ⟨v, c, t, u, b, rfl, k, ty, e, q⟩ := h
  obtain ⟨w1, w2, rfl, r1, r2⟩ := vals2 r
  cases k.eq r2
  obtain ⟨Z, hZ, hz, ne⟩ := tyY_kit I r1 ty
  exact PySem.W.kia_one hZ I.kIn hz e ne fun tk => ⟨V.bl b, H, I.tok tk, rfl, q⟩
theorem y_isiT {X : Cx} : CallR X (.builtin "isinstance") (yIsiT X.K) := fun pins s σ H vs us Q I r h => by
  obtain ⟨v, a, cs, t, vs', b, rfl, ha, k, ty, e, q⟩ := h
  obtain ⟨w1, w2, rfl, r1, r2⟩ := vals2 r
  cases (show w2 = Value.ref a from r2)
  obtain ⟨Z, hZ, hz, ne⟩ := tyY_kit I r1 ty
  obtain ⟨_, its, rv, ob, g1, g2, n, g3⟩ := I.hok a _ ha
  cases ClsV.all k rv
  cases ob
  cases g2
  cases g3
  exact PySem.W.kia_tup hZ I.kIn hz g1 e ne fun tk => ⟨V.bl b, H, I.tok tk, rfl, q⟩
theorem Rp.ty {K : PySem.W.Frag} {F H : Hp} (e : Ex F H) {v : V} {d : PyData} (r : Rp F v d) : TyY K H v (.type (tyD d)) := by
  cases r with
  | non => exact .x (.base .non)
  | bl b => exact .x (.base (.bl b))
  | int i => exact .x (.base (.int i))
  | str x => exact .x (.base (.str x))
  | lst h _ => exact .x (.base (.lst (e _ _ h)))
  | tup h _ => exact .x (.base (.tup (e _ _ h)))
  | dK h _ => exact .x (.fDict (e _ _ h))
  | dT h _ _ => exact .fT (e _ _ h)
def isSeq : PyData → Bool
  | .list _ => true
  | .tuple _ => true
  | _ => false
def isLst : PyData → Bool
  | .list _ => true
  | _ => false
def isTup : PyData → Bool
  | .tuple _ => true
  | _ => false
def isDic : PyData → Bool
  | .dict _ => true
  | _ => false
def isObjD : PyData → Bool
  | .list _ => true
  | .tuple _ => true
  | .dict _ => true
  | _ => false
def isBoo : PyData → Bool
  | .bool _ => true
  | _ => false
def isInt : PyData → Bool
  | .bool _ => true
  | .int _ => true
  | _ => false
def isStr : PyData → Bool
  | .str _ => true
  | _ => false

@[simp] theorem isSeq_0  : isSeq PyData.none = false := rfl
@[simp] theorem isSeq_1 (b : Bool) : isSeq (.bool b) = false := rfl
@[simp] theorem isSeq_2 (i : Int) : isSeq (.int i) = false := rfl
@[simp] theorem isSeq_3 (s : Str) : isSeq (.str s) = false := rfl
@[simp] theorem isSeq_4 (xs : List PyData) : isSeq (.list xs) = true := rfl
@[simp] theorem isSeq_5 (xs : List PyData) : isSeq (.tuple xs) = true := rfl
@[simp] theorem isSeq_6 (es : List (PyData × PyData)) : isSeq (.dict es) = false := rfl
@[simp] theorem isLst_0  : isLst PyData.none = false := rfl
@[simp] theorem isLst_1 (b : Bool) : isLst (.bool b) = false := rfl
@[simp] theorem isLst_2 (i : Int) : isLst (.int i) = false := rfl
@[simp] theorem isLst_3 (s : Str) : isLst (.str s) = false := rfl
@[simp] theorem isLst_4 (xs : List PyData) : isLst (.list xs) = true := rfl
@[simp] theorem isLst_5 (xs : List PyData) : isLst (.tuple xs) = false := rfl
@[simp] theorem isLst_6 (es : List (PyData × PyData)) : isLst (.dict es) = false := rfl
@[simp] theorem isTup_0  : isTup PyData.none = false := rfl
@[simp] theorem isTup_1 (b : Bool) : isTup (.bool b) = false := rfl
@[simp] theorem isTup_2 (i : Int) : isTup (.int i) = false := rfl
@[simp] theorem isTup_3 (s : Str) : isTup (.str s) = false := rfl
@[simp] theorem isTup_4 (xs : List PyData) : isTup (.list xs) = false := rfl
@[simp] theorem isTup_5 (xs : List PyData) : isTup (.tuple xs) = true := rfl
@[simp] theorem isTup_6 (es : List (PyData × PyData)) : isTup (.dict es) = false := rfl
@[simp] theorem isDic_0  : isDic PyData.none = false := rfl
@[simp] theorem isDic_1 (b : Bool) : isDic (.bool b) = false := rfl
@[simp] theorem isDic_2 (i : Int) : isDic (.int i) = false := rfl
@[simp] theorem isDic_3 (s : Str) : isDic (.str s) = false := rfl
@[simp] theorem isDic_4 (xs : List PyData) : isDic (.list xs) = false := rfl
@[simp] theorem isDic_5 (xs : List PyData) : isDic (.tuple xs) = false := rfl
@[simp] theorem isDic_6 (es : List (PyData × PyData)) : isDic (.dict es) = true := rfl
@[simp] theorem isObjD_0  : isObjD PyData.none = false := rfl
@[simp] theorem isObjD_1 (b : Bool) : isObjD (.bool b) = false := rfl
@[simp] theorem isObjD_2 (i : Int) : isObjD (.int i) = false := rfl
@[simp] theorem isObjD_3 (s : Str) : isObjD (.str s) = false := rfl
@[simp] theorem isObjD_4 (xs : List PyData) : isObjD (.list xs) = true := rfl
@[simp] theorem isObjD_5 (xs : List PyData) : isObjD (.tuple xs) = true := rfl
@[simp] theorem isObjD_6 (es : List (PyData × PyData)) : isObjD (.dict es) = true := rfl
@[simp] theorem isBoo_0  : isBoo PyData.none = false := rfl
@[simp] theorem isBoo_1 (b : Bool) : isBoo (.bool b) = true := rfl
@[simp] theorem isBoo_2 (i : Int) : isBoo (.int i) = false := rfl
@[simp] theorem isBoo_3 (s : Str) : isBoo (.str s) = false := rfl
@[simp] theorem isBoo_4 (xs : List PyData) : isBoo (.list xs) = false := rfl
@[simp] theorem isBoo_5 (xs : List PyData) : isBoo (.tuple xs) = false := rfl
@[simp] theorem isBoo_6 (es : List (PyData × PyData)) : isBoo (.dict es) = false := rfl
@[simp] theorem isInt_0  : isInt PyData.none = false := rfl
@[simp] theorem isInt_1 (b : Bool) : isInt (.bool b) = true := rfl
@[simp] theorem isInt_2 (i : Int) : isInt (.int i) = true := rfl
@[simp] theorem isInt_3 (s : Str) : isInt (.str s) = false := rfl
@[simp] theorem isInt_4 (xs : List PyData) : isInt (.list xs) = false := rfl
@[simp] theorem isInt_5 (xs : List PyData) : isInt (.tuple xs) = false := rfl
@[simp] theorem isInt_6 (es : List (PyData × PyData)) : isInt (.dict es) = false := rfl
@[simp] theorem isStr_0  : isStr PyData.none = false := rfl
@[simp] theorem isStr_1 (b : Bool) : isStr (.bool b) = false := rfl
@[simp] theorem isStr_2 (i : Int) : isStr (.int i) = false := rfl
@[simp] theorem isStr_3 (s : Str) : isStr (.str s) = true := rfl
@[simp] theorem isStr_4 (xs : List PyData) : isStr (.list xs) = false := rfl
@[simp] theorem isStr_5 (xs : List PyData) : isStr (.tuple xs) = false := rfl
@[simp] theorem isStr_6 (es : List (PyData × PyData)) : isStr (.dict es) = false := rfl
section
variable {z : Zn} {X : Cx} {e a b : Expr} {es : List Expr} {t ta tb : TE} {pos p p2 p3 p4 tpos : Pos} {wa wb : WE}
theorem pair_cls : ∀ Ts : List String, Paired ClsV (Ts.map V.ty) (Ts.map Value.type)
  | [] => .nil
  | T :: Ts => .cons (.ty T) (pair_cls Ts)
/-- isinstance(e, T) -/
@[simp] def wFun (g : PyData → PyData) (w : WE) : WE := fun en P => w en fun d n => P (g d) n
theorem je_isi {T : Str} {Tn : String} {g : PyData → Bool} (hg : Gl X "isinstance") (hm : X.mg "isinstance" = none) (hgT : Gl X T) (hmT : X.mg T = none) (hbT : bootBuiltins T = some (.type Tn)) (hk : ∀ d, kitB (tyD d) Tn = some (g d))
    (h : JE z X e t wa) (hn : T ≠ "__name__" := by decide) (hd : (T == ("__debug__" : Str)) = false := by decide)
    (s2 : starEach [Expr.Name T p2] X.env = (false, eval (Expr.Name T p2) X.env) :: starEach [] X.env := by rfl)
    (s1 : starEach [e, Expr.Name T p2] X.env = (false, eval e X.env) :: starEach [Expr.Name T p2] X.env := by rfl) (hpl : (backTo pos (starEach [Expr.Name T p2] X.env)).any (·.1) = false := by rfl) :
    JE z X (.Call (.Name "isinstance" p) [e, .Name T p2] [] pos) (tCB (kC yIsi) (tCons t (tCons (tC (.ty Tn)) tNil))) (wFun (fun d => .bool (g d)) wa) where
  pe := pe_callB (kC_ok y_isi) hg hm (by decide +kernel) (pa_cons h.pe (pa_cons (pe_bltn hgT hmT hbT (show RelV (.ty Tn) _ from rfl) hn hd) pa_nil s2) s1) (by decide) (by decide) s1 hpl
  de := fun B σ H F en s P Q hw k => by
    refine h.de B σ H F en s _ _ hw fun v H1 F1 d n1 g1 s1 r1 q1 => ?_
    exact fun K => ⟨v, .ty Tn, .type (tyD d), .type Tn, g d, rfl, .ty Tn, r1.ty g1.sub, kit_ty (hk d), k _ H1 F1 _ n1 g1 s1 (.bl _) q1⟩
theorem kit_int : ∀ d, kitB (tyD d) "int" = some (isInt d) := by intro d; cases d <;> (simp only [tyD, isInt]; decide +kernel)
theorem kit_bool : ∀ d, kitB (tyD d) "bool" = some (isBoo d) := by intro d; cases d <;> (simp only [tyD, isBoo]; decide +kernel)
theorem kit_str : ∀ d, kitB (tyD d) "str" = some (isStr d) := by intro d; cases d <;> (simp only [tyD, isStr]; decide +kernel)
theorem kit_list : ∀ d, kitB (tyD d) "list" = some (isLst d) := by intro d; cases d <;> (simp only [tyD, isLst]; decide +kernel)
theorem kit_tuple : ∀ d, kitB (tyD d) "tuple" = some (isTup d) := by intro d; cases d <;> (simp only [tyD, isTup]; decide +kernel)
theorem kit_dict : ∀ d, kitB (tyD d) "dict" = some (isDic d) := by intro d; cases d <;> (simp only [tyD, isDic]; decide +kernel)
def kitL (a : String) : List String → Option Bool
  | [] => some false
  | c :: cs => match kitB a c with
    | some true => some true
    | some false => kitL a cs
    | none => none
theorem kitL_ok {K : PySem.W.Frag} {a : String} : ∀ {cs : List String} {b : Bool}, kitL a cs = some b → PySem.W.kitAny K (.type a) (cs.map Value.type) = some b
  | [], b, h => by
    cases h
    exact kitAny_nil
  | c :: cs, b, h => by
    unfold kitL at h
    cases e : kitB a c with
    | none => rw [e] at h; cases h
    | some x =>
      rw [e] at h
      cases x with
      | true => exact kitAny_cons (kit_ty e) (fun q => by cases q) (fun _ => by cases h; rfl)
      | false => exact kitAny_cons (kit_ty e) (fun _ => kitL_ok h) (fun q => by cases q)
theorem kit_LT : ∀ (K : PySem.W.Frag) (d : PyData), PySem.W.kitAny K (.type (tyD d)) (["list", "tuple"].map Value.type) = some (isSeq d) := by intro K d; cases d <;> (simp only [tyD, isSeq]; exact kitL_ok (by decide +kernel))
theorem kit_LTD : ∀ (K : PySem.W.Frag) (d : PyData), PySem.W.kitAny K (.type (tyD d)) (["list", "tuple", "dict"].map Value.type) = some (isObjD d) := by intro K d; cases d <;> (simp only [tyD, isObjD]; exact kitL_ok (by decide +kernel))
/-- isinstance(e, (T1, T2, ..)): the classes by their names -/
theorem je_isiT {ts : List Expr} {k1 : Nat} {Ts : List String} {tr : TA} {g : PyData → Bool} (hg : Gl X "isinstance") (hm : X.mg "isinstance" = none) (hts : PA X ts tr)
    (htr : ∀ (σ : L2.St) (H : Hp) (Q : List V → Hp → Prop), Q (Ts.map V.ty) H → tr σ H Q) (hk : ∀ (K : PySem.W.Frag) (d : PyData), PySem.W.kitAny K (.type (tyD d)) (Ts.map Value.type) = some (g d)) (hl : Ts.length ≤ 100)
    (h : JE z X e t wa) (s2 : starEach [Expr.Tuple ts k1 tpos] X.env = (false, eval (Expr.Tuple ts k1 tpos) X.env) :: starEach [] X.env := by rfl)
    (s1 : starEach [e, Expr.Tuple ts k1 tpos] X.env = (false, eval e X.env) :: starEach [Expr.Tuple ts k1 tpos] X.env := by rfl) (hpl : (backTo pos (starEach [Expr.Tuple ts k1 tpos] X.env)).any (·.1) = false := by rfl) :
    JE z X (.Call (.Name "isinstance" p) [e, .Tuple ts k1 tpos] [] pos) (tCB (kC yIsiT) (tCons t (tCons (tTup tr) tNil))) (wFun (fun d => .bool (g d)) wa) where
  pe := pe_callB (kC_ok y_isiT) hg hm (by decide +kernel) (pa_cons h.pe (pa_cons (pe_tup hts) pa_nil s2) s1) (by decide) (by decide) s1 hpl
  de := fun B σ H F en s P Q hw k => by
    refine h.de B σ H F en s _ _ hw fun v H1 F1 d n1 g1 s1 r1 q1 => ?_
    refine htr σ H1 _ ⟨Evl.sz_of (by rw [List.length_map]; omega), fun l hl => ?_⟩
    have g2 : Grow z F1 H1 F1 (upd H1 l (.tup (Ts.map V.ty))) := Grow.fresh g1.sub hl
    have cl := pair_cls Ts
    exact fun K => ⟨v, l, Ts.map V.ty, .type (tyD d), Ts.map Value.type, g d, rfl, upd_same, cl, (r1.mono g2.ext).ty g2.sub, hk K d, k _ _ F1 _ n1 (g1.trans g2) (s1.new hl) (.bl _) q1⟩

/-! ### calls of built-ins with one argument -/
def DenB (z : Zn) (r : List V → Hp → VK → Prop) (f : PyData → (PyData → Prop) → Prop) : Prop := ∀ (H F : Hp) (x : V) (d : PyData) (P : PyData → Prop) (Q : VK), Ex F H → Rp F x d → f d P →
  (∀ v H' F' d', Grow z0 F H F' H' → Rp F' v d' → P d' → Q v H') → r [x] H Q
@[simp] def wB1 (f : PyData → (PyData → Prop) → Prop) (w : WE) : WE := fun en P => w en fun d n => f d fun r => P r n
theorem den_b1 {r : List V → Hp → VK → Prop} {f : PyData → (PyData → Prop) → Prop} (hr : DenB z r f) (h : Den z t wa) : Den z (tCB r (tCons t tNil)) (wB1 f wa) := fun B σ H F en s P Q hw k => by
  refine h B σ H F en s _ _ hw fun v H1 F1 d n1 g1 s1 r1 q1 => ?_
  exact hr H1 F1 v d _ _ g1.sub r1 q1 fun y H3 F3 d' g3 r3 q3 => k y H3 F3 d' n1 (g1.trans g3.weak) (s1.ex g3.ex) r3 q3
theorem je_b1 {x : Str} {id : String} {r : List V → Hp → VK → Prop} {f : PyData → (PyData → Prop) → Prop} (hc : CallR X (.builtin id) r) (hr : DenB z r f) (hg : Gl X x) (hm : X.mg x = none) (hv : bootBuiltins x = some (.builtin id)) (h : JE z X e t wa)
    (hn : x ≠ "__name__" := by decide) (hdb : (x == ("__debug__" : Str)) = false := by decide) (he : starEach [e] X.env = (false, eval e X.env) :: starEach [] X.env := by rfl) (hpl : (backTo pos (starEach [] X.env)).any (·.1) = false := by rfl) :
    JE z X (.Call (.Name x p) [e] [] pos) (tCB r (tCons t tNil)) (wB1 f wa) := ⟨pe_callB hc hg hm hv (pa_cons h.pe pa_nil he) hn hdb he hpl, den_b1 hr h.de⟩
theorem je_t1 {x : Str} {id : String} {r : List V → Hp → VK → Prop} {f : PyData → (PyData → Prop) → Prop} (hc : CallR X (.type id) r) (hr : DenB z r f) (hg : Gl X x) (hm : X.mg x = none) (hv : bootBuiltins x = some (.type id)) (h : JE z X e t wa)
    (hn : x ≠ "__name__" := by decide) (hdb : (x == ("__debug__" : Str)) = false := by decide) (he : starEach [e] X.env = (false, eval e X.env) :: starEach [] X.env := by rfl) (hpl : (backTo pos (starEach [] X.env)).any (·.1) = false := by rfl) :
    JE z X (.Call (.Name x p) [e] [] pos) (tCB r (tCons t tNil)) (wB1 f wa) := ⟨pe_callTy hc hg hm hv (pa_cons h.pe pa_nil he) hn hdb he hpl, den_b1 hr h.de⟩
/-- the items of a list or a tuple -/
def seqD : PyData → Option (List PyData)
  | .list ds => some ds
  | .tuple ds => some ds
  | _ => none
@[simp] theorem seqD_0  : seqD PyData.none = none := rfl
@[simp] theorem seqD_1 (b : Bool) : seqD (.bool b) = none := rfl
@[simp] theorem seqD_2 (i : Int) : seqD (.int i) = none := rfl
@[simp] theorem seqD_3 (s : Str) : seqD (.str s) = none := rfl
@[simp] theorem seqD_4 (xs : List PyData) : seqD (.list xs) = some xs := rfl
@[simp] theorem seqD_5 (xs : List PyData) : seqD (.tuple xs) = some xs := rfl
@[simp] theorem seqD_6 (es : List (PyData × PyData)) : seqD (.dict es) = none := rfl
theorem Rp.seq {K : PySem.W.Frag} {F H : Hp} (e : Ex F H) {v : V} {d : PyData} {ds : List PyData} (r : Rp F v d) (h : seqD d = some ds) : ∃ a xs, v = .ref a ∧ (SqL K H a xs ∨ SqT K H a xs) ∧ RpA F xs ds := by
  cases r with
  | lst q r => cases h; exact ⟨_, _, rfl, .inl (SqL.of (e _ _ q)), r⟩
  | tup q r => cases h; exact ⟨_, _, rfl, .inr (SqT.of (e _ _ q)), r⟩
  | non => cases h
  | bl _ => cases h
  | int _ => cases h
  | str _ => cases h
  | dK _ _ => cases h
  | dT _ _ _ => cases h
theorem Rp.seqA {F H : Hp} (e : Ex F H) {v : V} {d : PyData} {ds : List PyData} (r : Rp F v d) (h : seqD d = some ds) : ∃ a xs, v = .ref a ∧ (∀ K : PySem.W.Frag, SqL K H a xs ∨ SqT K H a xs) ∧ RpA F xs ds := by
  cases r with
  | lst q r => cases h; exact ⟨_, _, rfl, fun K => .inl (SqL.of (e _ _ q)), r⟩
  | tup q r => cases h; exact ⟨_, _, rfl, fun K => .inr (SqT.of (e _ _ q)), r⟩
  | non => cases h
  | bl _ => cases h
  | int _ => cases h
  | str _ => cases h
  | dK _ _ => cases h
  | dT _ _ _ => cases h
@[simp] def fLen : PyData → (PyData → Prop) → Prop := fun d P => ∃ ds, seqD d = some ds ∧ P (.int ds.length)
def rLen (K : PySem.W.Frag) : List V → Hp → VK → Prop := fun xs H Q => ∃ p ys, xs = [.ref p] ∧ (SqL K H p ys ∨ SqT K H p ys) ∧ Q (.int ys.length) H
theorem den_len : DenB z (kC rLen) fLen := by
  intro H F x d P Q s r h k K
  obtain ⟨ds, h1, q⟩ := h
  obtain ⟨a, xs, rfl, h2, h3⟩ := r.seq s h1
  refine ⟨a, xs, rfl, h2, ?_⟩
  rw [h3.length]
  exact k _ H F _ (Grow.stay s) (.int _) q
theorem je_len (hg : Gl X "len") (hm : X.mg "len" = none) (h : JE z X e t wa) (he : starEach [e] X.env = (false, eval e X.env) :: starEach [] X.env := by rfl) (hpl : (backTo pos (starEach [] X.env)).any (·.1) = false := by rfl) :
    JE z X (.Call (.Name "len" p) [e] [] pos) (tCB (kC rLen) (tCons t tNil)) (wB1 fLen wa) :=
  je_b1 (p := p) (pos := pos) (kC_ok (r := rLen) call_len_seq) den_len hg hm PySem.boot_len h (by decide) (by decide) he hpl
@[simp] def fTup : PyData → (PyData → Prop) → Prop := fun d P => ∃ ds, seqD d = some ds ∧ P (.tuple ds)
def rTupOf (K : PySem.W.Frag) : List V → Hp → VK → Prop := fun xs H Q => ∃ p ys, xs = [.ref p] ∧ ((SqL K H p ys ∧ ∀ l, H l = none → Q (.ref l) (upd H l (.tup ys))) ∨ (SqT K H p ys ∧ Q (.ref p) H))
theorem den_tupOf : DenB z (kC rTupOf) fTup := by
  intro H F x d P Q s r h k K
  obtain ⟨ds, h1, q⟩ := h
  cases r with
  | lst e r =>
    cases h1
    refine ⟨_, _, rfl, .inl ⟨SqL.of (s _ _ e), fun l hl => ?_⟩⟩
    have hf : F l = none := by
      cases e : F l with
      | none => rfl
      | some o => rw [s l o e] at hl; cases hl
    exact k _ _ _ _ (Grow.laid s hl) (.tup upd_same (r.mono (ex_upd hf))) q
  | tup e r =>
    cases h1
    exact ⟨_, _, rfl, .inr ⟨SqT.of (s _ _ e), k _ H F _ (Grow.stay s) (.tup e r) q⟩⟩
  | non => cases h1
  | bl _ => cases h1
  | int _ => cases h1
  | str _ => cases h1
  | dK _ _ => cases h1
  | dT _ _ _ => cases h1
theorem je_tupOf (hg : Gl X "tuple") (hm : X.mg "tuple" = none) (h : JE z X e t wa) (he : starEach [e] X.env = (false, eval e X.env) :: starEach [] X.env := by rfl) (hpl : (backTo pos (starEach [] X.env)).any (·.1) = false := by rfl) :
    JE z X (.Call (.Name "tuple" p) [e] [] pos) (tCB (kC rTupOf) (tCons t tNil)) (wB1 fTup wa) :=
  je_t1 (p := p) (pos := pos) (x := "tuple") (kC_ok (r := rTupOf) call_tuple_of) den_tupOf hg hm (by decide +kernel) h (by decide) (by decide) he hpl
@[simp] def fAll : PyData → (PyData → Prop) → Prop := fun d P => ∃ bs : List Bool, d = .list (bs.map PyData.bool) ∧ P (.bool (bs.all id))
@[simp] def fAny : PyData → (PyData → Prop) → Prop := fun d P => ∃ bs : List Bool, d = .list (bs.map PyData.bool) ∧ P (.bool (bs.any id))
theorem den_all : DenB z (kC rAll) fAll := by
  intro H F x d P Q s r h k K
  obtain ⟨bs, rfl, q⟩ := h
  cases r with
  | lst e r =>
    have e2 := r.ofBools
    subst e2
    exact ⟨_, bs, rfl, SqL.of (s _ _ e), k _ H F _ (Grow.stay s) (.bl _) q⟩
theorem den_any : DenB z (kC rAny) fAny := by
  intro H F x d P Q s r h k K
  obtain ⟨bs, rfl, q⟩ := h
  cases r with
  | lst e r =>
    have e2 := r.ofBools
    subst e2
    exact ⟨_, bs, rfl, SqL.of (s _ _ e), k _ H F _ (Grow.stay s) (.bl _) q⟩
theorem je_all (hg : Gl X "all") (hm : X.mg "all" = none) (h : JE z X e t wa) (hc : X.calm = true := by rfl) (he : starEach [e] X.env = (false, eval e X.env) :: starEach [] X.env := by rfl) (hpl : (backTo pos (starEach [] X.env)).any (·.1) = false := by rfl) :
    JE z X (.Call (.Name "all" p) [e] [] pos) (tCB (kC rAll) (tCons t tNil)) (wB1 fAll wa) :=
  je_b1 (p := p) (pos := pos) (x := "all") (kC_ok (cr_all hc)) den_all hg hm (by decide +kernel) h (by decide) (by decide) he hpl
theorem je_any (hg : Gl X "any") (hm : X.mg "any" = none) (h : JE z X e t wa) (hc : X.calm = true := by rfl) (he : starEach [e] X.env = (false, eval e X.env) :: starEach [] X.env := by rfl) (hpl : (backTo pos (starEach [] X.env)).any (·.1) = false := by rfl) :
    JE z X (.Call (.Name "any" p) [e] [] pos) (tCB (kC rAny) (tCons t tNil)) (wB1 fAny wa) :=
  je_b1 (p := p) (pos := pos) (x := "any") (kC_ok (cr_any hc)) den_any hg hm (by decide +kernel) h (by decide) (by decide) he hpl
/-- list(e): a fresh list -/
@[simp] def wListOf (w : WE) : WA := fun en P => w en fun d n => ∃ ds, seqD d = some ds ∧ P ds n
theorem none_of_sub {F H : Hp} {l : Addr} (s : Ex F H) (hl : H l = none) : F l = none := by
  cases e : F l with
  | none => rfl
  | some o => rw [s l o e] at hl; cases hl
def rLstOf (K : PySem.W.Frag) : List V → Hp → VK → Prop := fun xs H Q => ∃ p ys, xs = [.ref p] ∧ (SqL K H p ys ∨ SqT K H p ys) ∧ ∀ l, H l = none → Q (.ref l) (upd H l (.lst ys))
theorem jl_list (hg : Gl X "list") (hm : X.mg "list" = none) (h : JE z X e t wa) (he : starEach [e] X.env = (false, eval e X.env) :: starEach [] X.env := by rfl) (hpl : (backTo pos (starEach [] X.env)).any (·.1) = false := by rfl) :
    JL z X (.Call (.Name "list" p) [e] [] pos) (tCB (kC rLstOf) (tCons t tNil)) (wListOf wa) where
  pe := pe_callTy (kC_ok (r := rLstOf) call_list_of) hg hm (by decide +kernel) (pa_cons h.pe pa_nil he) (by decide) (by decide) he hpl
  de := fun B σ H F en s P Q hw k => by
    refine h.de B σ H F en s _ _ hw fun v H1 F1 d n1 g1 s1 r1 q1 => ?_
    obtain ⟨ds, h1, q⟩ := q1
    obtain ⟨a, xs, rfl, h2, h3⟩ := r1.seqA g1.sub h1
    exact fun K => ⟨a, xs, rfl, h2 K, fun l hl => k l xs _ F1 ds n1 (g1.trans (Grow.fresh g1.sub hl)) (s1.new hl) (g1.dom l hl) (none_of_sub g1.sub hl) upd_same h3 q⟩

/-! ### subscripts, slices -/
theorem RpA.atI {F : Hp} {xs : List V} {ds : List PyData} {i : Int} {d : PyData} (r : RpA F xs ds) (h : atI ds i = some d) : ∃ v, L2.atI xs i = some v ∧ Rp F v d := by
  unfold L2.atI at h ⊢
  rw [r.length]
  cases e : ixN ds.length i with
  | none => rw [e] at h; cases h
  | some j =>
    rw [e] at h
    exact r.get (show ds[j]? = some d from h)
theorem kI_ok {r : Fg → R2} (h : IxR X (r X.K)) : IxR X (kR r) := fun value slice pins s σ H x y v u Q I rx ry q hs => h value slice pins s σ H x y v u Q I rx ry (q X.K) hs
@[simp] def fIx : PyData → PyData → (PyData → Prop) → Prop := fun d e P => ∃ ds i r, seqD d = some ds ∧ e = .int i ∧ L2.atI ds i = some r ∧ P r
theorem den_ix : DenR z (kR rIx) fIx := by
  intro H F x y d e P Q s rx ry hf k K
  obtain ⟨ds, i, r, h1, rfl, h2, q⟩ := hf
  cases ry
  obtain ⟨a, xs, rfl, h3, h4⟩ := rx.seq s h1
  obtain ⟨v, h5, h6⟩ := h4.atI h2
  rcases h3 with h3 | h3
  · exact .inl ⟨a, xs, i, v, rfl, rfl, h3, h5, k _ H F _ (Grow.stay s) h6 q⟩
  · exact .inr (.inl ⟨a, xs, i, v, rfl, rfl, h3, h5, k _ H F _ (Grow.stay s) h6 q⟩)
theorem je_ix (ha : JE z X a ta wa) (hb : JE z X b tb wb) (hs : PlainIx b := by exact fun _ _ => rfl) : JE z X (.Subscript a b pos) (tOp (kR rIx) ta tb) (wOp fIx wa wb) := ⟨pe_ix (kI_ok ix_seq) ha.pe hb.pe hs, den_op den_ix ha.de hb.de⟩
/-- the items lo .. hi -/
def cutD {α : Type} (xs : List α) (lo hi : Option Int) : List α := (xs.drop (HT.sIx xs.length 0 lo)).take (HT.sIx xs.length xs.length hi - HT.sIx xs.length 0 lo)
theorem RpA.cut {F : Hp} {xs : List V} {ds : List PyData} {lo hi : Option Int} (r : RpA F xs ds) : RpA F (cutV xs lo hi) (cutD ds lo hi) := by
  unfold cutV cutD
  rw [r.length]
  exact (r.drop _).take _
def DenO (z : Zn) (t : TO) (w : En → (Option Int → Nat → Prop) → Prop) : Prop := ∀ (B : Hp) (σ : L2.St) (H F : Hp) (en : En), Sit z B σ H F en → ∀ (P : Option Int → Nat → Prop) (Q : Option Int → Hp → Prop), w en P →
  (∀ b H' F' n, Grow z F H F' H' → Stm z n H' → P b n → Q b H') → t σ H Q
structure JO (z : Zn) (X : Cx) (e : Option Expr) (t : TO) (w : En → (Option Int → Nat → Prop) → Prop) : Prop where
  po : PO X e t
  de : DenO z t w
@[simp] def wNoPart : En → (Option Int → Nat → Prop) → Prop := fun en P => P none en.n
@[simp] def wPart (w : WE) : En → (Option Int → Nat → Prop) → Prop := fun en P => w en fun d n => ∃ i, d = .int i ∧ P (some i) n
theorem jo_none : JO z X none tNoPart wNoPart := ⟨po_none, fun B σ H F en s P Q hw k => k none H F en.n (Grow.refl s.sub) s.stm hw⟩
theorem jo_some (h : JE z X e t wa) : JO z X (some e) (tPart t) (wPart wa) where
  po := po_some h.pe
  de := fun B σ H F en s P Q hw k => by
    refine h.de B σ H F en s _ _ hw fun v H1 F1 d n1 g1 s1 r1 q1 => ?_
    obtain ⟨i, rfl, q⟩ := q1
    cases r1
    exact ⟨i, rfl, k _ H1 F1 n1 g1 s1 q⟩
section
variable {lo hi : Option Expr} {tl th : TO} {wl wh : En → (Option Int → Nat → Prop) → Prop}
def kSl (r : Fg → V → Option Int → Option Int → Hp → VK → Prop) : V → Option Int → Option Int → Hp → VK → Prop := fun x l u H Q => ∀ K, r K x l u H Q
theorem kSl_ok {r : Fg → V → Option Int → Option Int → Hp → VK → Prop} (h : SlR X (r X.K)) : SlR X (kSl r) := fun pins s σ H x v vl vu lo hi sl Q I rx hs pl pu q => h pins s σ H x v vl vu lo hi sl Q I rx hs pl pu (q X.K)
/-- a slice of a list or a tuple -/
def cutK : PyData → Option Int → Option Int → PyData
  | .list ds, l, u => .list (cutD ds l u)
  | .tuple ds, l, u => .tuple (cutD ds l u)
  | d, _, _ => d
@[simp] theorem cutK_l (ds : List PyData) (l u : Option Int) : cutK (.list ds) l u = .list (cutD ds l u) := rfl
@[simp] theorem cutK_t (ds : List PyData) (l u : Option Int) : cutK (.tuple ds) l u = .tuple (cutD ds l u) := rfl
@[simp] theorem seqD_cutK (d : PyData) (l u : Option Int) : seqD (cutK d l u) = (seqD d).map fun ds => cutD ds l u := by cases d <;> rfl
@[simp] def wSl (wa : WE) (wl wh : En → (Option Int → Nat → Prop) → Prop) : WE := fun en P => wa en fun d n => wl ⟨en.s, n⟩ fun l n1 => wh ⟨en.s, n1⟩ fun u n2 => isSeq d = true ∧ P (cutK d l u) n2
theorem je_sl (h : JE z X e t wa) (hl : JO z X lo tl wl) (hu : JO z X hi th wh) : JE z X (.Subscript e (.Slice lo hi none p2) pos) (tSl (kSl fun K x l u H Q => rSlL K x l u H Q ∨ rSlA K x l u H Q) t tl th) (wSl wa wl wh) where
  pe := pe_slice (kSl_ok (r := fun K x l u H Q => rSlL K x l u H Q ∨ rSlA K x l u H Q) (SlR.or sl_list sl_tupA)) h.pe hl.po hu.po
  de := fun B σ H F en s P Q hw k => by
    refine h.de B σ H F en s _ _ hw fun v H1 F1 d n1 g1 s1 r1 q1 => ?_
    refine hl.de B σ H1 F1 _ (s.grow g1 s1) _ _ q1 fun l H2 F2 n2 g2 s2 q2 => ?_
    refine hu.de B σ H2 F2 _ ((s.grow g1 s1).grow g2 s2) _ _ q2 fun u H3 F3 n3 g3 s3 q3 => ?_
    obtain ⟨hq, q⟩ := q3
    intro K
    have g := (g1.trans g2).trans g3
    have r3 := (r1.mono g2.ext).mono g3.ext
    cases r3 with
    | lst e r =>
      refine .inl ⟨_, _, rfl, SqL.of (g3.sub _ _ e), fun p hp => ?_⟩
      exact k _ _ _ _ n3 (g.trans (Grow.laid g3.sub hp)) (s3.new hp) (.lst upd_same (r.cut.mono (ex_upd (none_of_sub g3.sub hp)))) q
    | @tup a xs ds e r =>
      refine .inr ⟨a, xs, rfl, SqT.of (g3.sub _ _ e), fun hw => ?_, fun _ p hp => ?_⟩
      · have e2 : cutD ds l u = ds := by
          unfold cutD
          rw [r.length] at hw
          rw [hw.1, hw.2]
          simp
        have q' : P (.tuple (cutD ds l u)) n3 := q
        rw [e2] at q'
        exact k _ H3 F3 _ n3 g s3 (.tup e r) q'
      · exact k _ _ _ _ n3 (g.trans (Grow.laid g3.sub hp)) (s3.new hp) (.tup upd_same (r.cut.mono (ex_upd (none_of_sub g3.sub hp)))) q
    | non => cases hq
    | bl _ => cases hq
    | int _ => cases hq
    | str _ => cases hq
    | dK _ _ => cases hq
    | dT _ _ _ => cases hq
/-- a slice of a list, fresh -/
@[simp] def wSlL (wa : WE) (wl wh : En → (Option Int → Nat → Prop) → Prop) : WA := fun en P => wa en fun d n => wl ⟨en.s, n⟩ fun l n1 => wh ⟨en.s, n1⟩ fun u n2 => ∃ ds, d = .list ds ∧ P (cutD ds l u) n2
theorem jl_sl (h : JE z X e t wa) (hl : JO z X lo tl wl) (hu : JO z X hi th wh) : JL z X (.Subscript e (.Slice lo hi none p2) pos) (tSl (kSl rSlL) t tl th) (wSlL wa wl wh) where
  pe := pe_slice (kSl_ok sl_list) h.pe hl.po hu.po
  de := fun B σ H F en s P Q hw k => by
    refine h.de B σ H F en s _ _ hw fun v H1 F1 d n1 g1 s1 r1 q1 => ?_
    refine hl.de B σ H1 F1 _ (s.grow g1 s1) _ _ q1 fun l H2 F2 n2 g2 s2 q2 => ?_
    refine hu.de B σ H2 F2 _ ((s.grow g1 s1).grow g2 s2) _ _ q2 fun u H3 F3 n3 g3 s3 q3 => ?_
    obtain ⟨ds, rfl, q⟩ := q3
    intro K
    have g := (g1.trans g2).trans g3
    have r3 := (r1.mono g2.ext).mono g3.ext
    cases r3 with
    | lst e r =>
      refine ⟨_, _, rfl, SqL.of (g3.sub _ _ e), fun p hp => ?_⟩
      exact k _ _ _ _ _ n3 (g.trans (Grow.fresh g3.sub hp)) (s3.new hp) (g.dom p hp) (none_of_sub g3.sub hp) upd_same r.cut q
end
/-- xs[::-1], a fresh list -/
def tRv (t : TE) : TE := fun σ H Q => ∀ K, tRevL K t σ H Q
@[simp] def wRev (wa : WE) : WA := fun en P => wa en fun d n => ∃ ds, d = .list ds ∧ P ds.reverse n
theorem jl_rev {k : Nat} {p1 p5 : Pos} (h : JE z X e t wa) : JL z X (.Subscript e (.Slice none none (some (.UnaryOp .USub (.Constant (.int 1) k p1) p5)) p3) pos) (tRv t) (wRev wa) where
  pe := ⟨fun pins s σ H Q I q => (pe_revL h.pe).run pins s σ H Q I (q X.K)⟩
  de := fun B σ H F en s P Q hw kk => by
    intro K
    refine h.de B σ H F en s _ _ hw fun v H1 F1 d n1 g1 s1 r1 q1 => ?_
    obtain ⟨ds, rfl, q⟩ := q1
    cases r1 with
    | lst e r =>
      refine ⟨_, _, rfl, SqL.of (g1.sub _ _ e), fun p hp => ?_⟩
      exact kk _ _ _ _ _ n1 (g1.trans (Grow.fresh g1.sub hp)) (s1.new hp) (g1.dom p hp) (none_of_sub g1.sub hp) upd_same r.reverse q
/-- lists joined: a fresh list -/
@[simp] def wCat (wa wb : WE) : WA := fun en P => wa en fun d n => wb ⟨en.s, n⟩ fun e n' => ∃ ds es, d = .list ds ∧ e = .list es ∧ ds.length + es.length ≤ 100000 ∧ P (ds ++ es) n'
theorem jl_cat (ha : JE z X a ta wa) (hb : JE z X b tb wb) : JL z X (.BinOp a .Add b pos) (tOp rCat ta tb) (wCat wa wb) where
  pe := pe_op op_cat ha.pe hb.pe
  de := fun B σ H F en s P Q hw k => by
    refine ha.de B σ H F en s _ _ hw fun v H1 F1 d n1 g1 s1 r1 q1 => ?_
    refine hb.de B σ H1 F1 _ (s.grow g1 s1) _ _ q1 fun u H2 F2 e n2 g2 s2 r2 q2 => ?_
    obtain ⟨ds, es, rfl, rfl, hl, q⟩ := q2
    have r1' := r1.mono g2.ext
    cases r1' with
    | lst e r =>
      cases r2 with
      | lst e' r' =>
        refine ⟨_, _, _, _, rfl, rfl, g2.sub _ _ e, g2.sub _ _ e', Evl.sz_of (by rw [r.length, r'.length]; exact hl), fun p hp => ?_⟩
        exact k _ _ _ _ _ n2 ((g1.trans g2).trans (Grow.fresh g2.sub hp)) (s2.new hp) ((g1.trans g2).dom p hp) (none_of_sub g2.sub hp) upd_same (r.append r') q
/-- tuples joined -/
@[simp] def fCatT : PyData → PyData → (PyData → Prop) → Prop := fun d e P => ∃ ds es, d = .tuple ds ∧ e = .tuple es ∧ ds.length + es.length ≤ 100000 ∧ P (.tuple (ds ++ es))
theorem den_catT : DenR z (kR rCatA) fCatT := by
  intro H F x y d e P Q s rx ry hf k K
  obtain ⟨ds, es, rfl, rfl, hl, q⟩ := hf
  cases rx with
  | @tup a xs _ e1 r1 =>
    cases ry with
    | @tup b ys _ e2 r2 =>
      refine ⟨a, b, xs, ys, rfl, rfl, SqT.of (s _ _ e1), SqT.of (s _ _ e2), Evl.sz_of (by rw [r1.length, r2.length]; exact hl), fun h => ?_, fun _ h => ?_, fun _ _ p hp => ?_⟩
      · subst h
        cases r1
        exact k _ H F _ (Grow.stay s) (.tup e2 r2) (by simpa using q)
      · subst h
        cases r2
        exact k _ H F _ (Grow.stay s) (.tup e1 r1) (by simpa using q)
      · exact k _ _ _ _ (Grow.laid s hp) (.tup upd_same ((r1.append r2).mono (ex_upd (none_of_sub s hp)))) q
theorem je_catT (ha : JE z X a ta wa) (hb : JE z X b tb wb) : JE z X (.BinOp a .Add b pos) (tOp (kR rCatA) ta tb) (wOp fCatT wa wb) := je_bin (kR_ok op_catA) den_catT ha hb
end
end DD
/-! The Deep layer, 4: what is walked, targets, comprehensions, statements, defs. -/
namespace DD
open PySem PySem.Spec PyProof.Rows L2
open Evl (Ex)

/-! ### what is walked -/
structure Yl (J : It) (F : Hp) (ds : List PyData) : Prop where
  go : ∀ (i : Nat) (H : Hp), Ex F H → i < ds.length → J.go i H
  stop : ∀ (i : Nat) (H : Hp), Ex F H → ds.length ≤ i → J.stop i H
  yld : ∀ (i : Nat) (x : V) (F1 H H' : Hp), Ex F F1 → Ex F1 H → J.yld i H x H' → ∀ d, ds[i]? = some d → ∃ F2, Grow z0 F1 H F2 H' ∧ Rp F2 x d
def DenI (z : Zn) (wi : TI) (ws : WA) : Prop := ∀ (B : Hp) (σ : L2.St) (H F : Hp) (en : En), Sit z B σ H F en → ∀ (P : List PyData → Nat → Prop) (R : It → Hp → Prop), ws en P →
  (∀ J H' F' ds n, Grow z F H F' H' → Stm z n H' → Yl J F' ds → P ds n → R J H') → wi σ H R
structure JI (z : Zn) (X : Cx) (tg iter : Expr) (wi : TI) (ws : WA) : Prop where
  pi : PI X tg iter wi
  de : DenI z wi ws
theorem yl_list {K : PySem.W.Frag} {F : Hp} {a : Addr} {xs : List V} {ds : List PyData} (h : F a = some (.lst xs)) (r : RpA F xs ds) : Yl (Itl K a) F ds where
  go := fun i H e hi => ⟨xs, xs[i]'(by rw [r.length]; exact hi), SqL.of (e _ _ h), by simp⟩
  stop := fun i H e hi => ⟨xs, SqL.of (e _ _ h), by rw [r.length]; exact hi⟩
  yld := fun i x F1 H H' e1 e2 y d hd => by
    obtain ⟨rfl, y⟩ := y
    obtain ⟨v, h1, h2⟩ := r.get hd
    have := y xs (SqL.of (e2 _ _ (e1 _ _ h)))
    rw [h1] at this
    cases this
    exact ⟨F1, Grow.refl e2, h2.mono e1⟩
theorem yl_tup {K : PySem.W.Frag} {F : Hp} {a : Addr} {xs : List V} {ds : List PyData} (h : F a = some (.tup xs)) (r : RpA F xs ds) : Yl (Itt K a) F ds where
  go := fun i H e hi => ⟨xs, xs[i]'(by rw [r.length]; exact hi), SqT.of (e _ _ h), by simp⟩
  stop := fun i H e hi => ⟨xs, SqT.of (e _ _ h), by rw [r.length]; exact hi⟩
  yld := fun i x F1 H H' e1 e2 y d hd => by
    obtain ⟨rfl, y⟩ := y
    obtain ⟨v, h1, h2⟩ := r.get hd
    have := y xs (SqT.of (e2 _ _ (e1 _ _ h)))
    rw [h1] at this
    cases this
    exact ⟨F1, Grow.refl e2, h2.mono e1⟩
def rgD (lo : Int) (n : Nat) : List PyData := (List.range n).map fun (i : Nat) => .int (lo + i)
theorem rgD_len (lo : Int) (n : Nat) : (rgD lo n).length = n := by simp [rgD]
theorem rgD_get {lo : Int} {n i : Nat} {d : PyData} (h : (rgD lo n)[i]? = some d) : d = .int (lo + i) ∧ i < n := by
  unfold rgD at h
  rw [List.getElem?_map] at h
  cases e : (List.range n)[i]? with
  | none => rw [e] at h; cases h
  | some j =>
    rw [e] at h
    obtain ⟨h1, h2⟩ := List.getElem?_eq_some_iff.mp e
    simp at h1 h2
    subst h2
    exact ⟨by cases h; rfl, h1⟩
theorem yl_range {F : Hp} {lo : Int} {n : Nat} : Yl (Itr lo n) F (rgD lo n) where
  go := fun i H _ hi => by rw [rgD_len] at hi; exact hi
  stop := fun i H _ hi => by rw [rgD_len] at hi; exact hi
  yld := fun i x F1 H H' e1 e2 y d hd => by
    obtain ⟨rfl, rfl⟩ := y
    obtain ⟨rfl, _⟩ := rgD_get hd
    exact ⟨F1, Grow.refl e2, .int _⟩
def zipD (ds es : List PyData) : List PyData := List.zipWith (fun x y => .tuple [x, y]) ds es
theorem zipD_get {ds es : List PyData} {i : Nat} {d : PyData} (h : (zipD ds es)[i]? = some d) : ∃ x y, ds[i]? = some x ∧ es[i]? = some y ∧ d = .tuple [x, y] := by
  unfold zipD at h
  rw [List.getElem?_zipWith] at h
  cases e1 : ds[i]? with
  | none => rw [e1] at h; cases h
  | some x =>
    cases e2 : es[i]? with
    | none => rw [e1, e2] at h; cases h
    | some y =>
      rw [e1, e2] at h
      cases h
      exact ⟨x, y, rfl, rfl, rfl⟩
theorem zipD_len (ds es : List PyData) : (zipD ds es).length = min ds.length es.length := by simp [zipD]
theorem yl_zip {K : PySem.W.Frag} {F : Hp} {a b : Addr} {xs ys : List V} {ds es : List PyData} (h : F a = some (.lst xs)) (r : RpA F xs ds) (h' : F b = some (.lst ys)) (r' : RpA F ys es) : Yl (Itz K a b) F (zipD ds es) where
  go := fun i H e hi => by
    rw [zipD_len] at hi
    have h1 : i < xs.length := by rw [r.length]; omega
    have h2 : i < ys.length := by rw [r'.length]; omega
    exact ⟨xs, ys, xs[i], ys[i], SqL.of (e _ _ h), SqL.of (e _ _ h'), by simp, by simp⟩
  stop := fun i H e hi => by
    rw [zipD_len] at hi
    refine ⟨xs, ys, SqL.of (e _ _ h), SqL.of (e _ _ h'), ?_⟩
    rw [r.length, r'.length]
    omega
  yld := fun i x F1 H H' e1 e2 y d hd => by
    obtain ⟨T, p, q, rfl, hT, rfl, f1, f2⟩ := y
    obtain ⟨dx, dy, g1, g2, rfl⟩ := zipD_get hd
    obtain ⟨v, a1, a2⟩ := r.get g1
    obtain ⟨u, b1, b2⟩ := r'.get g2
    have q1 := f1 xs (SqL.of (e2 _ _ (e1 _ _ h)))
    rw [a1] at q1
    cases q1
    have q2 := f2 ys (SqL.of (e2 _ _ (e1 _ _ h')))
    rw [b1] at q2
    cases q2
    have hF := none_of_sub e2 hT
    exact ⟨_, Grow.laid e2 hT, .tup upd_same (.cons ((a2.mono e1).mono (ex_upd hF)) (.cons ((b2.mono e1).mono (ex_upd hF)) .nil))⟩
theorem yl_zipT {K : PySem.W.Frag} {F : Hp} {a b : Addr} {xs ys : List V} {ds es : List PyData} (h : F a = some (.tup xs)) (r : RpA F xs ds) (h' : F b = some (.tup ys)) (r' : RpA F ys es) : Yl (RZ.ItzT K a b) F (zipD ds es) where
  go := fun i H e hi => by
    rw [zipD_len] at hi
    have h1 : i < xs.length := by rw [r.length]; omega
    have h2 : i < ys.length := by rw [r'.length]; omega
    exact ⟨xs, ys, xs[i], ys[i], SqT.of (e _ _ h), SqT.of (e _ _ h'), by simp, by simp⟩
  stop := fun i H e hi => by
    rw [zipD_len] at hi
    refine ⟨xs, ys, SqT.of (e _ _ h), SqT.of (e _ _ h'), ?_⟩
    rw [r.length, r'.length]
    omega
  yld := fun i x F1 H H' e1 e2 y d hd => by
    obtain ⟨T, p, q, rfl, hT, rfl, f1, f2⟩ := y
    obtain ⟨dx, dy, g1, g2, rfl⟩ := zipD_get hd
    obtain ⟨v, a1, a2⟩ := r.get g1
    obtain ⟨u, b1, b2⟩ := r'.get g2
    have q1 := f1 xs (SqT.of (e2 _ _ (e1 _ _ h)))
    rw [a1] at q1
    cases q1
    have q2 := f2 ys (SqT.of (e2 _ _ (e1 _ _ h')))
    rw [b1] at q2
    cases q2
    have hF := none_of_sub e2 hT
    exact ⟨_, Grow.laid e2 hT, .tup upd_same (.cons ((a2.mono e1).mono (ex_upd hF)) (.cons ((b2.mono e1).mono (ex_upd hF)) .nil))⟩

section
variable {z : Zn} {X : Cx} {tg e a b : Expr} {t ta tb : TE} {pos p : Pos} {wa wb : WE}
def iSeq (tl : TE) : TI := fun σ H R => tl σ H fun x H1 => ∀ K : PySem.W.Frag, ∃ a, x = .ref a ∧ (((∃ xs, SqL K H1 a xs) ∧ R (Itl K a) H1) ∨ ((∃ xs, SqT K H1 a xs) ∧ R (Itt K a) H1))
theorem pi_seq {l : Expr} {tl : TE} (hl : PE X l tl) : PI X tg l (iSeq tl) := by
  refine ⟨fun pins s σ H R I h => ?_⟩
  refine thn (hl.run pins s σ H _ I h) fun v s1 ⟨x, H1, I1, r1, q1⟩ => ?_
  obtain ⟨a, e, q2⟩ := q1 X.K
  subst e
  cases r1
  rcases q2 with ⟨⟨xs, hq⟩, q⟩ | ⟨⟨xs, hq⟩, q⟩
  · obtain ⟨its, rv, p, hz⟩ := I1.list hq
    refine wpAny_pyIter_list p.isList ?_
    refine ⟨s1.heap.objs.size, [s1.heap.objs.size], _, _, H1, rfl, I1.kept (t' := s1.toks) fun b o e => Heap.get?_push_of_some _ e, turn_list a _, ⟨_, Heap.get?_push_size _ rfl, rfl, rfl⟩, fun b hb => ?_, q⟩
    have e : b = s1.heap.objs.size := by simpa using hb
    subst e
    exact I1.fpOk (Nat.le_refl _) (I1.hok.fresh (Nat.le_refl _))
  · obtain ⟨its, rv, p, hz⟩ := I1.tuple hq
    refine wpAny_pyIter_tuple (show s1.heap.IsTuple a its.toArray from p) ?_
    refine ⟨s1.heap.objs.size, [s1.heap.objs.size], _, _, H1, rfl, I1.kept (t' := s1.toks) fun b o e => Heap.get?_push_of_some _ e, turn_tuple a _, ⟨_, Heap.get?_push_size _ rfl, rfl, rfl⟩, fun b hb => ?_, q⟩
    have e : b = s1.heap.objs.size := by simpa using hb
    subst e
    exact I1.fpOk (Nat.le_refl _) (I1.hok.fresh (Nat.le_refl _))
@[simp] def wSeqOf (w : WE) : WA := fun en P => w en fun d n => ∃ ds, seqD d = some ds ∧ P ds n
theorem ji_seq (h : JE z X e t wa) : JI z X tg e (iSeq t) (wSeqOf wa) where
  pi := pi_seq h.pe
  de := fun B σ H F en s P R hw k => by
    refine h.de B σ H F en s _ _ hw fun v H1 F1 d n1 g1 s1 r1 q1 => ?_
    obtain ⟨ds, h1, q⟩ := q1
    intro K
    cases r1 with
    | lst e r => cases h1; exact ⟨_, rfl, .inl ⟨⟨_, SqL.of (g1.sub _ _ e)⟩, k _ H1 F1 _ n1 g1 s1 (yl_list e r) q⟩⟩
    | tup e r => cases h1; exact ⟨_, rfl, .inr ⟨⟨_, SqT.of (g1.sub _ _ e)⟩, k _ H1 F1 _ n1 g1 s1 (yl_tup e r) q⟩⟩
    | non => cases h1
    | bl _ => cases h1
    | int _ => cases h1
    | str _ => cases h1
    | dK _ _ => cases h1
    | dT _ _ _ => cases h1
@[simp] def wRng1 (w : WE) : WA := fun en P => w en fun d n => ∃ j, d = .int j ∧ -(2 ^ 62) ≤ j ∧ j < 2 ^ 62 ∧ P (rgD 0 j.toNat) n
theorem ji_range1 (hg : Gl X "range") (hm : X.mg "range" = none) (h : JE z X a ta wa) (hs : starEach [a] X.env = [(false, eval a X.env)] := by rfl) : JI z X tg (.Call (.Name "range" p) [a] [] pos) (iRng1 (tCons ta tNil)) (wRng1 wa) where
  pi := pi_range1 hg hm (pa_cons h.pe pa_nil hs) hs
  de := fun B σ H F en s P R hw k => by
    refine h.de B σ H F en s _ _ hw fun v H1 F1 d n1 g1 s1 r1 q1 => ?_
    obtain ⟨j, rfl, h1, h2, q⟩ := q1
    cases r1
    exact ⟨j, rfl, h1, h2, k _ H1 F1 _ n1 g1 s1 yl_range q⟩
def iZp (ta : TA) : TI := fun σ H R => ∀ K : PySem.W.Frag, RZ.iZipA K ta σ H R
@[simp] def wZip (wa wb : WE) : WA := fun en P => wa en fun d n => wb ⟨en.s, n⟩ fun e n' => ((∃ ds es, d = .list ds ∧ e = .list es ∧ P (zipD ds es) n') ∨ (∃ ds es, d = .tuple ds ∧ e = .tuple es ∧ P (zipD ds es) n'))
theorem ji_zip {elts : List Expr} {kk : Nat} {tpos : Pos} (hg : Gl X "zip") (hm : X.mg "zip" = none) (ha : JE z X a ta wa) (hb : JE z X b tb wb) (hs : starEach [a, b] X.env = (false, eval a X.env) :: starEach [b] X.env := by rfl)
    (hs2 : starEach [b] X.env = (false, eval b X.env) :: starEach [] X.env := by rfl) (hpl : (backTo pos (starEach [b] X.env)).any (·.1) = false := by rfl) :
    JI z X (.Tuple elts kk tpos) (.Call (.Name "zip" p) [a, b] [] pos) (iZp (tCons ta (tCons tb tNil))) (wZip wa wb) where
  pi := ⟨fun pins s σ H R I h => (RZ.pi_zipA hg hm (pa_cons ha.pe (pa_cons hb.pe pa_nil hs2) hs) (hpl := hpl) hs).run pins s σ H R I (h X.K)⟩
  de := fun B σ H F en s P R hw k => by
    intro K
    refine ha.de B σ H F en s _ _ hw fun v H1 F1 d n1 g1 s1 r1 q1 => ?_
    refine hb.de B σ H1 F1 _ (s.grow g1 s1) _ _ q1 fun u H2 F2 e n2 g2 s2 r2 q2 => ?_
    have r1' := r1.mono g2.ext
    rcases q2 with ⟨ds, es, rfl, rfl, q⟩ | ⟨ds, es, rfl, rfl, q⟩
    · cases r1' with
      | lst e1 r =>
        cases r2 with
        | lst e2 r' => exact ⟨_, _, _, _, rfl, .inl ⟨SqL.of (g2.sub _ _ e1), SqL.of (g2.sub _ _ e2), k _ H2 F2 _ n2 (g1.trans g2) s2 (yl_zip e1 r e2 r') q⟩⟩
    · cases r1' with
      | tup e1 r =>
        cases r2 with
        | tup e2 r' => exact ⟨_, _, _, _, rfl, .inr ⟨SqT.of (g2.sub _ _ e1), SqT.of (g2.sub _ _ e2), k _ H2 F2 _ n2 (g1.trans g2) s2 (yl_zipT e1 r e2 r') q⟩⟩
end

/-! ### targets -/
def Agr (js : List Nat) (σ σ' : L2.St) : Prop := σ'.length = σ.length ∧ ∀ i : Nat, i ∉ js → σ'[i]? = σ[i]?
def DenG (z : Zn) (g : TG) (js : List Nat) (wg : En → PyData → (En → Prop) → Prop) : Prop := ∀ (B : Hp) (σ : L2.St) (H F : Hp) (en : En) (v : V) (d : PyData), Sit z B σ H F en → Rp F v d → ∀ (P : En → Prop) (Q : L2.St → Hp → Prop), wg en d P →
  (∀ σ' en', Sit z B σ' H F en' → Agr js σ σ' → P en' → Q σ' H) → g v σ H Q
def DenGs (z : Zn) (g : TGs) (js : List Nat) (wg : En → List PyData → (En → Prop) → Prop) : Prop := ∀ (B : Hp) (σ : L2.St) (H F : Hp) (en : En) (v : List V) (d : List PyData), Sit z B σ H F en → RpA F v d → ∀ (P : En → Prop) (Q : L2.St → Hp → Prop), wg en d P →
  (∀ σ' en', Sit z B σ' H F en' → Agr js σ σ' → P en' → Q σ' H) → g v σ H Q
structure JG (z : Zn) (X : Cx) (tg : Expr) (g : TG) (js : List Nat) (wg : En → PyData → (En → Prop) → Prop) : Prop where
  pg : PG X tg g
  de : DenG z g js wg
structure JGs (z : Zn) (X : Cx) (tg : List Expr) (g : TGs) (js : List Nat) (wg : En → List PyData → (En → Prop) → Prop) : Prop where
  pg : PGs X tg g
  de : DenGs z g js wg
section
variable {z : Zn} {X : Cx} {tg e : Expr} {es : List Expr} {pos : Pos}
@[simp] def wgN (i : Nat) : En → PyData → (En → Prop) → Prop := fun en d P => P ⟨en.s.set i (.val d), en.n⟩
theorem jg_name (i : Nat) {x : Str} (hN : X.N.Nodup) (hi : X.N[i]? = some x) (hx : Loc X.env.scope x) (hf : X.fn x = true ∨ X.env.scope.names.lookup x = some .local := by first | exact .inl rfl | exact .inr rfl | assumption) : JG z X (.Name x pos) (gName i) [i] (wgN i) where
  pg := pg_name hN hi hx hf
  de := fun B σ H F en v d s r P Q hw k => k _ _ (s.set i r) ⟨by simp, fun j hj => by
    rw [List.getElem?_set_ne]
    intro q
    exact hj (by simp [q])⟩ hw
def wgNil : En → List PyData → (En → Prop) → Prop := fun en ds P => ds = [] ∧ P en
def wgCons (w : En → PyData → (En → Prop) → Prop) (u : En → List PyData → (En → Prop) → Prop) : En → List PyData → (En → Prop) → Prop := fun en ds P => ∃ d r, ds = d :: r ∧ w en d fun en' => u en' r P
@[simp] theorem wgNil_at (en : En) (P : En → Prop) : wgNil en [] P ↔ P en := ⟨fun h => h.2, fun h => ⟨rfl, h⟩⟩
@[simp] theorem wgCons_at (w : En → PyData → (En → Prop) → Prop) (u : En → List PyData → (En → Prop) → Prop) (en : En) (d : PyData) (r : List PyData) (P : En → Prop) : wgCons w u en (d :: r) P ↔ w en d fun en' => u en' r P := ⟨fun ⟨_, _, h, q⟩ => by cases h; exact q, fun q => ⟨_, _, rfl, q⟩⟩
theorem jgs_nil : JGs z X [] gNil [] wgNil := ⟨pgs_nil, fun B σ H F en v d s r P Q hw k => by
  obtain ⟨rfl, q⟩ := hw
  cases r
  exact ⟨rfl, k σ en s ⟨rfl, fun _ _ => rfl⟩ q⟩⟩
theorem jgs_cons {g : TG} {gs : TGs} {js ks : List Nat} {w : En → PyData → (En → Prop) → Prop} {u : En → List PyData → (En → Prop) → Prop} (h : JG z X e g js w) (hs : JGs z X es gs ks u)
    (ha : (assignEach (e :: es) X.env).map (·.2) = assign e X.env :: (assignEach es X.env).map (·.2) := by rfl) : JGs z X (e :: es) (gCons g gs) (js ++ ks) (wgCons w u) where
  pg := pgs_cons h.pg hs.pg ha
  de := fun B σ H F en v d s r P Q hw k => by
    obtain ⟨d0, dr, rfl, q⟩ := hw
    cases r with
    | cons r0 rr =>
      refine ⟨_, _, rfl, h.de B σ H F en _ _ s r0 _ _ q fun σ' en' s' a' q' => ?_⟩
      exact hs.de B σ' H F en' _ _ s' rr _ _ q' fun σ2 en2 s2 a2 q2 => k σ2 en2 s2 ⟨a2.1.trans a'.1, fun i hi => by
        rw [List.mem_append, not_or] at hi
        rw [a2.2 i hi.2, a'.2 i hi.1]⟩ q2
def gSq (n : Nat) (t : TGs) : TG := fun v σ H Q => ∃ a xs, v = .ref a ∧ (∀ K : PySem.W.Frag, SqL K H a xs ∨ SqT K H a xs) ∧ xs.length = n ∧ t xs σ H Q
theorem pg_sq {k : Nat} {t : TGs} {n : Nat} (hc : X.calm = true) (h : PGs X es t) (hn : (assignEach es X.env).length = n := by rfl) (hst : (assignEach es X.env).findIdx? (·.1) = none := by rfl) : PG X (.Tuple es k pos) (gSq n t) := by
  refine ⟨fun pins s σ H v u Q I r hw => ?_⟩
  obtain ⟨a, xs, e1, hq, hl, hw⟩ := hw
  rcases hq X.K with hq | hq
  · exact (pg_lst (k := k) (pos := pos) hc h hn hst).run pins s σ H v u Q I r ⟨a, xs, e1, hq, hl, hw⟩
  · exact (pg_tup (k := k) (pos := pos) hc h hn hst).run pins s σ H v u Q I r ⟨a, xs, e1, hq, hl, hw⟩
@[simp] def wgSq (n : Nat) (u : En → List PyData → (En → Prop) → Prop) : En → PyData → (En → Prop) → Prop := fun en d P => ∃ ds, seqD d = some ds ∧ ds.length = n ∧ u en ds P
theorem jg_tup {k : Nat} {gs : TGs} {js : List Nat} {u : En → List PyData → (En → Prop) → Prop} (n : Nat) (h : JGs z X es gs js u) (hc : X.calm = true := by rfl) (hn : (assignEach es X.env).length = n := by rfl) (hst : (assignEach es X.env).findIdx? (·.1) = none := by rfl) : JG z X (.Tuple es k pos) (gSq n gs) js (wgSq n u) where
  pg := pg_sq hc h.pg hn hst
  de := fun B σ H F en v d s r P Q hw kk => by
    obtain ⟨ds, h1, h2, q⟩ := hw
    obtain ⟨a, xs, rfl, h3, h4⟩ := r.seqA s.sub h1
    exact ⟨a, xs, rfl, h3, by rw [h4.length]; exact h2, h.de B σ H F en xs ds s h4 P Q q kk⟩
end

/-! ### comprehensions -/
structure JTs (z : Zn) (X : Cx) (es : List Expr) (t : TT) (w : WT) : Prop where
  pts : PTs X es t
  de : DenT z t w
@[simp] def wYes : WT := fun en P => P true en.n
theorem wipe_ext {σ σ' : L2.St} {vs : List Nat} (hl : σ'.length = σ.length) (h : ∀ i : Nat, i ∉ vs → σ'[i]? = σ[i]?) : L2.wipe σ' vs = L2.wipe σ vs := by
  have key : ∀ (ws : List Nat) (τ τ' : L2.St), τ'.length = τ.length → (∀ i : Nat, i ∉ ws → τ'[i]? = τ[i]?) → L2.wipe τ' ws = L2.wipe τ ws := by
    intro ws
    induction ws with
    | nil =>
      intro τ τ' hl h
      exact List.ext_getElem? fun i => h i (by simp)
    | cons w ws ih =>
      intro τ τ' hl h
      show (L2.wipe τ' ws).set w none = (L2.wipe τ ws).set w none
      refine List.ext_getElem? fun i => ?_
      by_cases hi : w = i
      · subst hi
        by_cases hw : w < τ.length
        · rw [List.getElem?_set_self (by rw [wipe_length, hl]; exact hw), List.getElem?_set_self (by rw [wipe_length]; exact hw)]
        · rw [List.getElem?_eq_none (by rw [List.length_set, wipe_length, hl]; omega), List.getElem?_eq_none (by rw [List.length_set, wipe_length]; omega)]
      · rw [List.getElem?_set_ne hi, List.getElem?_set_ne hi]
        by_cases hm : i ∈ ws
        · have e1 := congrArg (fun l => l[i]?) (ih (τ.set w none) (τ'.set w none) (by simpa using hl) (fun j hj => by
            by_cases hjw : w = j
            · subst hjw
              by_cases hw : w < τ.length
              · rw [List.getElem?_set_self (by rw [hl]; exact hw), List.getElem?_set_self hw]
              · rw [List.getElem?_eq_none (by rw [List.length_set, hl]; omega), List.getElem?_eq_none (by rw [List.length_set]; omega)]
            · rw [List.getElem?_set_ne hjw, List.getElem?_set_ne hjw]
              exact h j (by simp [hj]; exact fun q => hjw q.symm)))
          have inw : ∀ (us : List Nat) (ρ : L2.St), i ∈ us → (L2.wipe ρ us)[i]? = if i < ρ.length then some none else none := by
            intro us
            induction us with
            | nil => intro ρ hm; cases hm
            | cons u us ih2 =>
              intro ρ hm
              show ((L2.wipe ρ us).set u none)[i]? = _
              by_cases hu : u = i
              · subst hu
                by_cases hw : u < ρ.length
                · rw [List.getElem?_set_self (by rw [wipe_length]; exact hw), if_pos hw]
                · rw [List.getElem?_eq_none (by rw [List.length_set, wipe_length]; omega), if_neg hw]
              · rw [List.getElem?_set_ne hu]
                rcases List.mem_cons.mp hm with q | q
                · exact absurd q.symm hu
                · exact ih2 ρ q
          rw [inw ws τ' hm, inw ws τ hm, hl]
        · rw [wipe_out hm, wipe_out hm]
          exact h i (by simp [hm]; exact fun q => hi q.symm)
  exact key vs σ σ' hl h
theorem wipe_idem (σ : L2.St) (vs : List Nat) : L2.wipe (L2.wipe σ vs) vs = L2.wipe σ vs := wipe_ext (wipe_length σ vs) fun i hi => wipe_out hi
section
variable {z : Zn} {X : Cx} {tg iter elt : Expr} {ifs : List Expr} {pos : Pos}
theorem jts_nil : JTs z X [] tYes wYes := ⟨pts_nil, fun B σ H F en s P Q hw k => k true H F en.n (Grow.refl s.sub) s.stm hw⟩
theorem jts_one {e : Expr} {t : TT} {w : WT} (h : JT z X e t w) : JTs z X [e] t w := ⟨pts_one h.pt, h.de⟩
def wLc (ws : WA) (wg : En → PyData → (En → Prop) → Prop) (wt : WT) (we : WE) (vs : List Nat) : WA := fun en P => ws en fun ds n => ∃ I : Nat → List PyData → Nat → Prop, I 0 [] n ∧
  (∀ (k : Nat) (d : PyData) (acc : List PyData) (n1 : Nat), ds[k]? = some d → I k acc n1 → wg (wipeE ⟨en.s, n1⟩ vs) d fun en2 => wt en2 fun b n2 => if b = true then we ⟨en2.s, n2⟩ fun r n3 => acc.length < 100000 ∧ I (k + 1) (acc ++ [r]) n3 else I (k + 1) acc n2) ∧
  ∀ acc n1, I ds.length acc n1 → P acc n1
theorem den_lc {wi : TI} {g : TG} {tt : TT} {te : TE} {ws : WA} {js vs : List Nat} {wg : En → PyData → (En → Prop) → Prop} {wt : WT} {we : WE} (hi : DenI z wi ws) (hg : DenG z g js wg) (ht : DenT z tt wt) (he : Den z te we) (hj : ∀ j ∈ js, j ∈ vs) : DenL z (tLc wi g tt te vs) (wLc ws wg wt we vs) := by
  intro B σ H F en s P Q hw k
  refine hi B σ H F en s _ _ hw fun J H1 F1 ds n1 g1 s1 y1 q1 => ?_
  obtain ⟨I, i0, turn, fin⟩ := q1
  intro D hD
  have hDF : F1 D = none := none_of_sub g1.sub hD
  have zD : ¬ Zv z D := zv_not s1 hD
  refine ⟨fun i m H' => m = ds.length - i ∧ i ≤ ds.length ∧ ∃ F' acc dacc n', Grow z F1 H1 F' H' ∧ Stm z n' H' ∧ F' D = none ∧ H' D = some (.lst acc) ∧ RpA F' acc dacc ∧ I i dacc n', ⟨ds.length, rfl, Nat.zero_le _, F1, [], [], n1, Grow.fresh g1.sub hD, s1.new hD, hDF, upd_same, .nil, i0⟩, ?_⟩
  rintro i m H2 ⟨rfl, hle, F2, acc, dacc, n2, g2, s2, f2, d2, r2, i2⟩
  by_cases hlt : i < ds.length
  · refine .inr ⟨y1.go i H2 (g2.ext.trans g2.sub) hlt, fun H' => ∃ F' acc dacc n', Grow z F1 H1 F' H' ∧ Stm z n' H' ∧ F' D = none ∧ H' D = some (.lst acc) ∧ RpA F' acc dacc ∧ I (i + 1) dacc n', fun H' p => ⟨ds.length - (i + 1), by omega, rfl, hlt, p⟩, fun x H3 hy => ?_⟩
    obtain ⟨F3, g3, r3⟩ := y1.yld i x F2 H2 H3 g2.ext g2.sub hy ds[i] (by simp)
    have s3 : Stm z n2 H3 := s2.ex g3.ex
    have g23 : Grow z F1 H1 F3 H3 := g2.trans g3.weak
    have sit3 : Sit z B σ H3 F3 ⟨en.s, n2⟩ := s.grow (g1.trans g23) s3
    have w3 := sit3.wipe vs
    have d3 : H3 D = some (.lst acc) := g3.ex _ _ d2
    have f3 : F3 D = none := (g3.weak (z := z)).apart d2 zD (fun _ q => nomatch q) f2
    refine hg B _ H3 F3 _ x ds[i] w3 r3 _ _ (turn i ds[i] dacc n2 (by simp) i2) fun σ4 en4 s4 a4 q4 => ?_
    refine ⟨?_, ?_⟩
    · rw [wipe_ext (σ' := σ4) (σ := L2.wipe σ vs) a4.1 fun j hj' => a4.2 j fun q => hj' (hj j q), wipe_idem]
    · refine ht B σ4 H3 F3 en4 s4 _ _ q4 fun b H5 F5 n5 g5 s5 q5 => ?_
      have d5 : H5 D = some (.lst acc) := g5.keep D _ zD d3
      have f5 : F5 D = none := g5.apart d3 zD (fun _ q => nomatch q) f3
      cases b with
      | false =>
        refine iteF ⟨F5, acc, dacc, n5, g23.trans g5, s5, f5, d5, (r2.mono g3.ext).mono g5.ext, by simpa using q5⟩
      | true =>
        refine iteT (he B σ4 H5 F5 _ (s4.grow g5 s5) _ _ (by simpa using q5) fun v H6 F6 d n6 g6 s6 r6 q6 => ?_)
        obtain ⟨hl, q6⟩ := q6
        have d6 : H6 D = some (.lst acc) := g6.keep D _ zD d5
        have f6 : F6 D = none := g6.apart d5 zD (fun _ q => nomatch q) f5
        have r6' := ((r2.mono g3.ext).mono g5.ext).mono g6.ext
        refine ⟨acc, d6, Evl.sz_lt (by rw [r2.length]; exact hl), F6, acc ++ [v], dacc ++ [d], n6, ?_, s6.upd zD (fun _ q => by rw [d6] at q; cases q), f6, upd_same, r6'.append (.one r6), q6⟩
        have g := (g23.trans g5).trans g6
        exact { keep := fun b o nz h => by
                  rw [upd_ne (ne_of_none h hD)]
                  exact g.keep b o nz h
                dom := fun b h => by
                  by_cases hb : b = D
                  · subst hb; exact hD
                  · rw [upd_ne hb] at h; exact g.dom b h
                ext := g.ext
                sub := fun b u h => by
                  rw [upd_ne (ne_of_none h f6)]
                  exact g.sub b u h
                new := g.new }
  · have e : i = ds.length := by omega
    subst e
    refine .inl ⟨y1.stop _ H2 (g2.ext.trans g2.sub) (Nat.le_refl _), ?_⟩
    exact k D acc H2 F2 dacc n2 (g1.trans g2) s2 (g1.dom D hD) f2 d2 r2 (fin _ _ i2)
end
end DD
/-! The Deep layer, 5: comprehensions as rules, statements, calls, defs. -/
namespace DD
open PySem PySem.Spec PyProof.Rows L2
open Evl (Ex)
section
variable {z : Zn} {X : Cx} {tg iter elt : Expr} {ifs : List Expr} {pos : Pos}
theorem jl_lc {scope : Scope} {wi : TI} {g : TG} {tt : TT} {te : TE} {ws : WA} {js : List Nat} {wg : En → PyData → (En → Prop) → Prop} {wt : WT} {we : WE} (own : List (Str × Nat)) (hN : X.N.Nodup) (hi : JI z X tg iter wi ws) (ok : blkC X.N X.env.scope scope own = true)
    (hg : ∀ (s : Shared) (H : Hp) (C : Addr) (cl : List (Str × Addr)) (fp : List Addr), JG z (X.blk s H scope (compEnvC scope cl C X.env) fp) tg g js wg) (ht : ∀ (s : Shared) (H : Hp) (C : Addr) (cl : List (Str × Addr)) (fp : List Addr), JTs z (X.blk s H scope (compEnvC scope cl C X.env) fp) ifs tt wt)
    (he : ∀ (s : Shared) (H : Hp) (C : Addr) (cl : List (Str × Addr)) (fp : List Addr), JE z (X.blk s H scope (compEnvC scope cl C X.env) fp) elt te we) (hc : X.calm = true := by rfl) (hj : ∀ j ∈ js, j ∈ own.map (·.2) := by decide)
    (hs : ∀ x, foldedSetIterable iter X.env x = pure x := by intro _; rfl) : JL z X (.ListComp elt [⟨tg, iter, ifs, 0⟩] scope pos) (tLc wi g tt te (own.map (·.2))) (wLc ws wg wt we (own.map (·.2))) where
  pe := pe_lc hc hN hi.pi (blkOk_by ok) (fun s H C cl fp => (hg s H C cl fp).pg) (fun s H C cl fp => (ht s H C cl fp).pts) (fun s H C cl fp => (he s H C cl fp).pe) hs
  de := den_lc hi.de (hg X.s_0 (fun _ => none) 0 [] []).de (ht X.s_0 (fun _ => none) 0 [] []).de (he X.s_0 (fun _ => none) 0 [] []).de hj
end

/-! ### statements -/
structure DEn where
  nx : En → Prop
  rt : PyData → Nat → Prop
  bk : En → Prop := fun _ => False
  ct : En → Prop := fun _ => False
  xx : Value → Str → V → PyData → Prop := fun _ _ _ _ => False
abbrev WS := DEn → En → Prop
structure EndsOk (z : Zn) (B F0 : Hp) (P : DEn) (D : Ends) : Prop where
  nx : ∀ σ' H' F' en', Sit z B σ' H' F' en' → Grow z F0 B F' H' → P.nx en' → D.nx σ' H'
  rt : ∀ v H' F' d n, Grow z F0 B F' H' → Stm z n H' → Rp F' v d → P.rt d n → D.rt v H'
  bk : ∀ σ' H' F' en', Sit z B σ' H' F' en' → Grow z F0 B F' H' → P.bk en' → D.bk σ' H'
  ct : ∀ σ' H' F' en', Sit z B σ' H' F' en' → Grow z F0 B F' H' → P.ct en' → D.ct σ' H'
  xx : ∀ cls v d f dx H' F', Grow z F0 B F' H' → H' dx = some (.xd [(f, v)]) → Rp F' v d → P.xx cls f v d → z.W cls (some dx) H'
def DenS (z : Zn) (t : TS) (w : WS) : Prop := ∀ (B F0 : Hp) (σ : L2.St) (H F : Hp) (en : En) (D : Ends) (P : DEn), Sit z B σ H F en → Grow z F0 B F H → w P en → EndsOk z B F0 P D → t D σ H
structure JS (z : Zn) (X : Cx) (st : Stmt) (t : TS) (w : WS) : Prop where
  ps : PS X st t
  de : DenS z t w
structure JSs (z : Zn) (X : Cx) (sts : List Stmt) (t : TS) (w : WS) : Prop where
  ps : PSs X sts t
  de : DenS z t w
section
variable {z : Zn} {X : Cx} {st : Stmt} {rest body orelse : List Stmt} {e a b c : Expr} {t u tb tu : TS} {w v wb : WS} {te ta : TE} {we wa : WE} {pos p : Pos}
@[simp] def wNext : WS := fun P en => P.nx en
@[simp] def wSeq (w v : WS) : WS := fun P en => w { P with nx := fun en' => v P en' } en
theorem den_next : DenS z tNext wNext := fun B F0 σ H F en D P s g hw k => k.nx σ H F en s g hw
theorem den_seq (h : DenS z t w) (h' : DenS z u v) : DenS z (tSeq t u) (wSeq w v) := fun B F0 σ H F en D P s g hw k =>
  h B F0 σ H F en { D with nx := u D } { P with nx := fun en' => v P en' } s g hw ⟨fun σ' H' F' en' s' g' q => h' B F0 σ' H' F' en' D P s' g' q k, k.rt, k.bk, k.ct, k.xx⟩
theorem jss_nil : JSs z X [] tNext wNext := ⟨pss_nil, den_next⟩
theorem jss_cons (h : JS z X st t w) (h' : JSs z X rest u v) : JSs z X (st :: rest) (tSeq t u) (wSeq w v) := ⟨pss_cons h.ps h'.ps, den_seq h.de h'.de⟩
theorem jss_one (h : JS z X st t w) : JSs z X [st] t w := ⟨pss_one h.ps, h.de⟩
@[simp] def wRet (w : WE) : WS := fun P en => w en P.rt
theorem den_ret (h : Den z te we) : DenS z (tRet te) (wRet we) := fun B F0 σ H F en D P s g hw k =>
  h B σ H F en s _ _ hw fun v H1 F1 d n1 g1 s1 r1 q1 => k.rt v H1 F1 d n1 (g.trans g1) s1 r1 q1
theorem js_ret (h : JE z X e te we) : JS z X (.Return (some e) pos) (tRet te) (wRet we) := ⟨ps_ret h.pe, den_ret h.de⟩
@[simp] def wRetN : WS := fun P en => P.rt .none en.n
theorem js_retN : JS z X (.Return none pos) tRetN wRetN := ⟨ps_retN, fun B F0 σ H F en D P s g hw k => k.rt _ H F _ en.n g s.stm .non hw⟩
@[simp] def wIfS (w : WT) (v u : WS) : WS := fun P en => w en fun b n => if b = true then v P ⟨en.s, n⟩ else u P ⟨en.s, n⟩
theorem den_ifS {tc : TT} {wc : WT} (hc : DenT z tc wc) (ha : DenS z t w) (hb : DenS z u v) : DenS z (tIfS tc t u) (wIfS wc w v) := fun B F0 σ H F en D P s g hw k => by
  refine hc B σ H F en s _ _ hw fun b H1 F1 n1 g1 s1 q1 => ?_
  cases b with
  | true => exact iteT (ha B F0 σ H1 F1 _ D P (s.grow g1 s1) (g.trans g1) (by simpa using q1) k)
  | false => exact iteF (hb B F0 σ H1 F1 _ D P (s.grow g1 s1) (g.trans g1) (by simpa using q1) k)
theorem js_if {tc : TT} {wc : WT} (hc : JT z X c tc wc) (ha : JSs z X body t w) (hb : JSs z X orelse u v) : JS z X (.If c body orelse pos) (tIfS tc t u) (wIfS wc w v) := ⟨ps_if hc.pt ha.ps hb.ps, den_ifS hc.de ha.de hb.de⟩
@[simp] def wDrop (w : WE) : WS := fun P en => w en fun _ n => P.nx ⟨en.s, n⟩
theorem den_drop (h : Den z te we) : DenS z (tDrop te) (wDrop we) := fun B F0 σ H F en D P s g hw k =>
  h B σ H F en s _ _ hw fun v H1 F1 d n1 g1 s1 r1 q1 => k.nx σ H1 F1 _ (s.grow g1 s1) (g.trans g1) q1
theorem js_expr (h : JE z X e te we) (hs : swapsWith e none pos.line X.env = pure false := by rfl) : JS z X (.Expr e pos) (tDrop te) (wDrop we) := ⟨ps_expr h.pe hs, den_drop h.de⟩
@[simp] def wAsg (w : WE) (wg : En → PyData → (En → Prop) → Prop) : WS := fun P en => w en fun d n => wg ⟨en.s, n⟩ d P.nx
theorem den_asg {g : TG} {js : List Nat} {wg : En → PyData → (En → Prop) → Prop} (h : Den z te we) (hg : DenG z g js wg) : DenS z (tAsg te g) (wAsg we wg) := fun B F0 σ H F en D P s g0 hw k =>
  h B σ H F en s _ _ hw fun v H1 F1 d n1 g1 s1 r1 q1 => hg B σ H1 F1 _ v d (s.grow g1 s1) r1 _ _ q1 fun σ' en' s' _ q' => k.nx σ' H1 F1 en' s' (g0.trans g1) q'
theorem js_asg {tg : Expr} {g : TG} {js : List Nat} {wg : En → PyData → (En → Prop) → Prop} (h : JE z X e te we) (hg : JG z X tg g js wg) (hs : swapsWithSole [tg] e pos.line X.env = pure false := by rfl) (hw : swappedStores [tg] e X.env = pure none := by rfl)
    (h1 : (assignEach [tg] X.env).map (·.2) = [assign tg X.env] := by rfl) : JS z X (.Assign [tg] e pos) (tAsg te g) (wAsg we wg) := ⟨ps_asg h.pe hg.pg hs hw h1, den_asg h.de hg.de⟩
/-- x = a fresh list, to be the def's own -/
@[simp] def wAsgL (w : WA) (i : Nat) : WS := fun P en => w en fun ds n => P.nx ⟨en.s.set i (.own ds), n⟩
theorem den_asgL {wl : WA} {i : Nat} (h : DenL z te wl) : DenS z (tAsg te (gName i)) (wAsgL wl i) := fun B F0 σ H F en D P s g0 hw k =>
  h B σ H F en s _ _ hw fun l xs H1 F1 ds n1 g1 s1 hl hf hx r1 q1 => by
    have s2 := s.grow g1 s1
    refine k.nx _ H1 F1 _ (s2.setOwn i hf (fun q => s.stm.there q hl) hx r1 (g0.dom l hl) fun j b hj e ob q => s.ownAt e ob q hl) (g0.trans g1) q1
theorem js_asgL {x : Str} {pos' : Pos} {wl : WA} (i : Nat) (hN : X.N.Nodup) (hi : X.N[i]? = some x) (hx : Loc X.env.scope x) (h : JL z X e te wl) (hs : swapsWith e (some (.Name x pos')) pos.line X.env = pure false := by rfl)
    (hf : X.fn x = true ∨ X.env.scope.names.lookup x = some .local := by first | exact .inl rfl | exact .inr rfl | assumption) : JS z X (.Assign [.Name x pos'] e pos) (tAsg te (gName i)) (wAsgL wl i) := ⟨ps_set hN hi hx h.pe hs hf, den_asgL h.de⟩
/-- y = [.. for ..]: own, or a value -/
theorem js_setLc {y : Str} {py : Pos} {elt tg iter : Expr} {ifs : List Expr} {scope : Scope} {spos : Pos} {wi : TI} {g : TG} {tt : TT} {te : TE} {ws : WA} {js : List Nat} {wg : En → PyData → (En → Prop) → Prop} {wt : WT} {we : WE} (i : Nat) (own : List (Str × Nat)) (hN : X.N.Nodup) (hy : X.N[i]? = some y) (hyl : X.env.scope.names.lookup y = some .local)
    (hsw : swapsWith (.ListComp elt [⟨tg, iter, ifs, 0⟩] scope pos) (some (.Name y py)) spos.line X.env = pure true) (hi : JI z X tg iter wi ws) (ok : blkC X.N X.env.scope scope own = true)
    (hg : ∀ (s : Shared) (H : Hp) (C : Addr) (cl : List (Str × Addr)) (fp : List Addr), JG z (X.blk s H scope (compEnvC scope cl C X.env) fp) tg g js wg) (ht : ∀ (s : Shared) (H : Hp) (C : Addr) (cl : List (Str × Addr)) (fp : List Addr), JTs z (X.blk s H scope (compEnvC scope cl C X.env) fp) ifs tt wt)
    (he : ∀ (s : Shared) (H : Hp) (C : Addr) (cl : List (Str × Addr)) (fp : List Addr), JE z (X.blk s H scope (compEnvC scope cl C X.env) fp) elt te we) (hc : X.calm = true := by rfl) (hj : ∀ j ∈ js, j ∈ own.map (·.2) := by decide)
    (hs : ∀ x, foldedSetIterable iter X.env x = pure x := by intro _; rfl) :
    JS z X (.Assign [.Name y py] (.ListComp elt [⟨tg, iter, ifs, 0⟩] scope pos) spos) (tAsg (tLc wi g tt te (own.map (·.2))) (gName i)) (wAsgL (wLc ws wg wt we (own.map (·.2))) i) where
  ps := ps_setLc hc hN hy hyl hsw hi.pi (blkOk_by ok) (fun s H C cl fp => (hg s H C cl fp).pg) (fun s H C cl fp => (ht s H C cl fp).pts) (fun s H C cl fp => (he s H C cl fp).pe) hs
  de := den_asgL (jl_lc own hN hi ok hg ht he hc hj hs (pos := pos)).de
/-- an own list is frozen -/
@[simp] def wFrz (i : Nat) (w : WS) : WS := fun P en => ∃ ds, en.s[i]? = some (.own ds) ∧ w P ⟨en.s.set i (.val (.list ds)), en.n⟩
theorem den_frz (i : Nat) (h : DenS z t w) : DenS z t (wFrz i w) := fun B F0 σ H F en D P s g hw k => by
  obtain ⟨ds, h1, h2⟩ := hw
  obtain ⟨l, xs, e1, e2, e3, e4, e5, s'⟩ := s.borrow h1
  obtain ⟨o, q1, l', xs', q2, q3, q4, q5, q6, q7⟩ := s.slot i _ h1
  rw [e1] at q1
  cases q1
  cases q2
  exact h B F0 σ H _ _ D P s' (g.freeze q7 e4 e2) h2 k
theorem jss_frz (i : Nat) (h : JSs z X rest t w) : JSs z X rest t (wFrz i w) := ⟨h.ps, den_frz i h.de⟩
/-- x.append(e) -/
@[simp] def wApp (i : Nat) (w : WE) : WS := fun P en => ∃ ds, en.s[i]? = some (.own ds) ∧ w en fun d n => ds.length < 100000 ∧ P.nx ⟨en.s.set i (.own (ds ++ [d])), n⟩
theorem Sit.own {B : Hp} {σ : L2.St} {H F : Hp} {en : En} {i : Nat} {ds : List PyData} (s : Sit z B σ H F en) (h : en.s[i]? = some (.own ds)) :
    ∃ l xs, σ[i]? = some (some (.ref l)) ∧ F l = none ∧ ¬ Zv z l ∧ H l = some (.lst xs) ∧ RpA F xs ds ∧ B l = none := by
  obtain ⟨o, h1, l, xs, rfl, h2, h3, h4, h5, h6⟩ := s.slot i _ h
  exact ⟨l, xs, h1, h2, h3, h4, h5, h6⟩
/-- an own list is changed -/
theorem Sit.reown {B : Hp} {σ : L2.St} {H F : Hp} {en : En} {i : Nat} {ds es : List PyData} {l : Addr} {ys : List V} (s : Sit z B σ H F en) (h : en.s[i]? = some (.own ds)) (hl : σ[i]? = some (some (.ref l))) (r : RpA F ys es) :
    Sit z B σ (L2.upd H l (.lst ys)) F ⟨en.s.set i (.own es), en.n⟩ := by
  obtain ⟨l', xs, e1, e2, e3, e4, e5, e6⟩ := s.own h
  rw [hl] at e1
  cases e1
  exact s.rewrite h rfl rfl hl e2 e3 ⟨l, ys, rfl, e2, e3, upd_same, r, e6⟩
theorem Grow.wroteO {F0 B F H : Hp} {l : Addr} {o : HO} (g : Grow z F0 B F H) (hB : B l = none) (hF : F l = none) : Grow z F0 B F (L2.upd H l o) where
  keep := fun b o nz h => by rw [upd_ne (ne_of_none h hB)]; exact g.keep b o nz h
  dom := fun b h => by
    by_cases hb : b = l
    · subst hb; exact hB
    · rw [upd_ne hb] at h; exact g.dom b h
  ext := g.ext
  sub := fun b u h => by rw [upd_ne (ne_of_none h hF)]; exact g.sub b u h
  new := g.new
theorem Grow.wrote {F0 B F H : Hp} {l : Addr} {xs ys : List V} (g : Grow z F0 B F H) (hB : B l = none) (hF : F l = none) : Grow z F0 B F (L2.upd H l (.lst ys)) := g.wroteO hB hF
theorem den_app {K : PySem.W.Frag} {i : Nat} (h : Den z te we) : DenS z (tDrop (tBM K "list" rAppend (tVar i) (tCons te tNil))) (wApp i we) := fun B F0 σ H F en D P s g hw k => by
  obtain ⟨ds, h1, h2⟩ := hw
  obtain ⟨l, xs, e1, e2, e3, e4, e5, e6⟩ := s.own h1
  refine ⟨.ref l, e1, .inl ⟨rfl, _, SqL.of e4⟩, ?_⟩
  refine h B σ H F en s _ _ h2 fun v H1 F1 d n1 g1 s1 r1 q1 => ?_
  obtain ⟨hl, q⟩ := q1
  have e4' : H1 l = some (.lst xs) := g1.keep l _ e3 e4
  have s2 := s.grow g1 s1
  refine ⟨l, xs, v, rfl, rfl, e4', Evl.sz_lt (by rw [e5.length]; exact hl), ?_⟩
  have e2' : F1 l = none := g1.apart e4 e3 (fun _ q => nomatch q) e2
  exact k.nx σ _ F1 _ (s2.reown h1 e1 ((e5.mono g1.ext).append (.one r1))) ((g.trans g1).wrote (xs := xs) e6 e2') q
theorem js_app {x : Str} {p0 p1 p2 p3 : Pos} (i : Nat) (h : JE z X e te we) (hN : X.N[i]? = some x := by rfl) (hv : Vis X.env.scope x := by first | exact Or.inl rfl | exact Or.inr (Or.inl rfl) | exact Or.inr (Or.inr rfl)) (hd : (x == ("__debug__" : Str)) = false := by decide)
    (hcd : (x == ("__classdict__" : Str)) = false := by decide)
    (hbase : attributeBase (.Name x p0) "append" X.env (eval (.Name x p0) X.env) = eval (.Name x p0) X.env := by rfl)
    (hfew : ((backTo p2 (starEach [e] X.env)).all (fun x => !x.1) && (backToKw p2 (keywordEach [] X.env)).all (fun x => x.1.isSome)
      && decide ([e].length + ([] : List Keyword).length + (if ([] : List Keyword).isEmpty then 0 else 1) < 30)) = true := by rfl)
    (hline : (p1.endLine == p2.line) = true := by rfl)
    (he : starEach [e] X.env = (false, eval e X.env) :: starEach [] X.env := by rfl) (hpl : (backTo p2 (starEach [] X.env)).any (·.1) = false := by rfl)
    (hs : swapsWith (.Call (.Attribute (.Name x p0) "append" p1) [e] [] p2) none p3.line X.env = pure false := by rfl) :
    JS z X (.Expr (.Call (.Attribute (.Name x p0) "append" p1) [e] [] p2) p3) (tDrop (tBM X.K "list" rAppend (tVar i) (tCons te tNil))) (wApp i we) where
  ps := ps_expr (pe_bm PySem.F.plainAttrs_list PySem.F.slot_list_append PySem.F.type_list_append mt_append (pv i hN hv hd hcd) (pa_cons h.pe pa_nil he) hbase hfew hline he hpl) hs
  de := den_app h.de
end
end DD
/-! The Deep layer, 6: loops, more statements, calls, defs. -/
namespace DD
open PySem PySem.Spec PyProof.Rows L2
open Evl (Ex)
theorem Grow.based {z : Zn} {F0 B F1 H1 F' H' : Hp} (g : Grow z F0 B F1 H1) (g' : Grow z F1 B F' H') : Grow z F0 B F' H' where
  keep := g'.keep
  dom := g'.dom
  ext := g.ext.trans g'.ext
  sub := g'.sub
  new := fun b h1 h2 => (g.new b h1 h2).elim (fun q => g'.new b h1 q) fun ⟨xs, q⟩ => .inr ⟨xs, g'.ext b _ q⟩
theorem Grow.base {z : Zn} {F0 B F1 H1 : Hp} (g : Grow z F0 B F1 H1) : Grow z F1 B F1 H1 where
  keep := g.keep
  dom := g.dom
  ext := Evl.Ex.refl F1
  sub := g.sub
  new := fun _ _ h => .inl h
section
variable {z : Zn} {X : Cx} {st : Stmt} {rest body orelse : List Stmt} {e a b c : Expr} {t u tb tu : TS} {w v wb : WS} {te ta : TE} {we wa : WE} {pos p : Pos}
def wFor (ws : WA) (wg : En → PyData → (En → Prop) → Prop) (wb : WS) : WS := fun P en => ws en fun ds n => ∃ I : Nat → En → Prop, I 0 ⟨en.s, n⟩ ∧
  (∀ (k : Nat) (d : PyData) (en' : En), ds[k]? = some d → I k en' → wg en' d fun en2 => wb { nx := I (k + 1), ct := I (k + 1), bk := P.nx, rt := P.rt, xx := P.xx } en2) ∧ ∀ en', I ds.length en' → P.nx en'
theorem den_for {wi : TI} {g : TG} {ws : WA} {js : List Nat} {wg : En → PyData → (En → Prop) → Prop} (hi : DenI z wi ws) (hg : DenG z g js wg) (hb : DenS z tb wb) : DenS z (tFor wi g tb) (wFor ws wg wb) := by
  intro B F0 σ H F en D P s g0 hw k
  refine hi B σ H F en s _ _ hw fun J H1 F1 ds n1 g1 s1 y1 q1 => ?_
  obtain ⟨I, i0, turn, fin⟩ := q1
  have G1 : Grow z F0 B F1 H1 := g0.trans g1
  refine ⟨fun i m σ' H' => m = ds.length - i ∧ i ≤ ds.length ∧ ∃ F' en', Sit z B σ' H' F' en' ∧ Grow z F1 B F' H' ∧ I i en', ⟨ds.length, rfl, Nat.zero_le _, F1, _, s.grow g1 s1, G1.base, i0⟩, ?_⟩
  rintro i m σ2 H2 ⟨rfl, hle, F2, en2, s2, g2, i2⟩
  by_cases hlt : i < ds.length
  · refine .inr ⟨y1.go i H2 (g2.ext.trans g2.sub) hlt, fun σ' H' => ∃ F' en', Sit z B σ' H' F' en' ∧ Grow z F1 B F' H' ∧ I (i + 1) en', fun σ' H' p => ⟨ds.length - (i + 1), by omega, rfl, hlt, p⟩, fun x H3 hy => ?_⟩
    obtain ⟨F3, g3, r3⟩ := y1.yld i x F2 H2 H3 g2.ext g2.sub hy ds[i] (by simp)
    have s3 : Sit z B σ2 H3 F3 en2 := s2.grow (n' := en2.n) g3.weak (s2.stm.ex g3.ex)
    have g23 : Grow z F1 B F3 H3 := g2.trans g3.weak
    refine hg B _ H3 F3 _ x ds[i] s3 r3 _ _ (turn i ds[i] en2 (by simp) i2) fun σ4 en4 s4 _ q4 => ?_
    refine hb B F1 σ4 H3 F3 en4 _ _ s4 g23 q4 ⟨fun σ' H' F' en' s' g' q' => ⟨F', en', s', g', q'⟩, fun v H' F' d n g' st' r' q' => k.rt v H' F' d n (G1.based g') st' r' q', fun σ' H' F' en' s' g' q' => k.nx σ' H' F' en' s' (G1.based g') q', fun σ' H' F' en' s' g' q' => ⟨F', en', s', g', q'⟩, fun cls v d f dx H' F' g' => k.xx cls v d f dx H' F' (G1.based g')⟩
  · have e : i = ds.length := by omega
    subst e
    exact .inl ⟨y1.stop _ H2 (g2.ext.trans g2.sub) (Nat.le_refl _), k.nx σ2 H2 F2 en2 s2 (G1.based g2) (fin _ i2)⟩
theorem js_for {tg iter : Expr} {wi : TI} {g : TG} {ws : WA} {js : List Nat} {wg : En → PyData → (En → Prop) → Prop} (hp : PassesOwn (model X.prog X.w) X.A X.env X.xe) (hi : JI z X tg iter wi ws) (hg : JG z X tg g js wg) (hb : JSs z X body tb wb) (hc : X.calm = true := by rfl)
    (hs : ∀ x, foldedSetIterable iter X.env x = pure x := by intro _; rfl) : JS z X (.For tg iter body [] pos) (tFor wi g tb) (wFor ws wg wb) := ⟨ps_for hp hc hi.pi hg.pg hb.ps hs, den_for hi.de hg.de hb.de⟩
def wWhile (wt : WT) (wb : WS) : WS := fun P en => ∃ I : Nat → En → Prop, (∃ m, I m en) ∧ ∀ (m : Nat) (en' : En), I m en' → wt en' fun b n => if b = true then wb { nx := fun e2 => ∃ m', m' < m ∧ I m' e2, ct := fun e2 => ∃ m', m' < m ∧ I m' e2, bk := P.nx, rt := P.rt, xx := P.xx } ⟨en'.s, n⟩ else P.nx ⟨en'.s, n⟩
theorem den_while {tc : TT} {wt : WT} (hc : DenT z tc wt) (hb : DenS z tb wb) : DenS z (tWhile tc tb) (wWhile wt wb) := by
  intro B F0 σ H F en D P s g0 hw k
  obtain ⟨I, ⟨m0, i0⟩, turn⟩ := hw
  refine ⟨fun m σ' H' => ∃ F' en', Sit z B σ' H' F' en' ∧ Grow z F0 B F' H' ∧ I m en', ⟨m0, F, en, s, g0, i0⟩, ?_⟩
  rintro m σ2 H2 ⟨F2, en2, s2, g2, i2⟩
  refine hc B σ2 H2 F2 en2 s2 _ _ (turn m en2 i2) fun b H3 F3 n3 g3 s3 q3 => ?_
  cases b with
  | false => exact iteF (k.nx σ2 H3 F3 _ (s2.grow g3 s3) (g2.trans g3) (by simpa using q3))
  | true =>
    refine iteT ⟨fun σ' H' => ∃ m', m' < m ∧ ∃ F' en', Sit z B σ' H' F' en' ∧ Grow z F0 B F' H' ∧ I m' en', fun σ' H' p => p, ?_⟩
    have q3' : wb { nx := fun e2 => ∃ m', m' < m ∧ I m' e2, ct := fun e2 => ∃ m', m' < m ∧ I m' e2, bk := P.nx, rt := P.rt, xx := P.xx } ⟨en2.s, n3⟩ := by simpa using q3
    exact hb B F0 σ2 H3 F3 _ _ _ (s2.grow g3 s3) (g2.trans g3) q3' ⟨fun σ' H' F' en' s' g' ⟨m', h1, h2⟩ => ⟨m', h1, F', en', s', g', h2⟩, k.rt, k.nx, fun σ' H' F' en' s' g' ⟨m', h1, h2⟩ => ⟨m', h1, F', en', s', g', h2⟩, k.xx⟩
theorem js_while {tc : TT} {wt : WT} (hp : PassesOwn (model X.prog X.w) X.A X.env X.xe) (hc : JT z X c tc wt) (hb : JSs z X body tb wb) : JS z X (.While c body [] pos) (tWhile tc tb) (wWhile wt wb) := ⟨ps_while hp hc.pt hb.ps, den_while hc.de hb.de⟩
@[simp] def wBreak : WS := fun P en => P.bk en
@[simp] def wCont : WS := fun P en => P.ct en
theorem js_break : JS z X (.Break pos) tBreak wBreak := ⟨ps_break, fun B F0 σ H F en D P s g hw k => k.bk σ H F en s g hw⟩
theorem js_continue : JS z X (.Continue pos) tCont wCont := ⟨ps_continue, fun B F0 σ H F en D P s g hw k => k.ct σ H F en s g hw⟩
theorem js_pass : JS z X (.Pass pos) tNext wNext := ⟨ps_pass, den_next⟩
/-- x += e, ints -/
@[simp] def wAug (f : Int → Int → Int) (i : Nat) (w : WE) : WS := fun P en => ∃ u x, en.s[i]? = some u ∧ u.dat = some (.int x) ∧ w en fun d n => ∃ y, d = .int y ∧ P.nx ⟨en.s.set i (.val (.int (f x y))), n⟩
theorem den_aug {f : Int → Int → Int} {i : Nat} (h : Den z te we) : DenS z (tAug i te (ipI f)) (wAug f i we) := fun B F0 σ H F en D P s g0 hw k => by
  obtain ⟨u, x, h1, hd, h2⟩ := hw
  obtain ⟨o, e1, v, rfl, r⟩ := s.datV h1 hd
  cases r
  refine ⟨.int x, e1, h B σ H F en s _ _ h2 fun v H1 F1 d n1 g1 s1 r1 q1 => ?_⟩
  obtain ⟨y, rfl, q⟩ := q1
  cases r1
  exact ⟨x, y, rfl, rfl, k.nx _ H1 F1 _ ((s.grow g1 s1).set i (.int (f x y))) (g0.trans g1) q⟩
/-- a, b = e1, e2 -/
@[simp] def wPar (i j : Nat) (w : WA) : WS := fun P en => w en fun ds n => ∃ d e, ds = [d, e] ∧ P.nx ⟨(en.s.set i (.val d)).set j (.val e), n⟩
theorem den_par {i j : Nat} {ta : TA} {w : WA} (h : DenA z ta w) : DenS z (tPar i j ta) (wPar i j w) := fun B F0 σ H F en D P s g0 hw k =>
  h B σ H F en s _ _ hw fun vs H1 F1 ds n1 g1 s1 r1 q1 => by
    obtain ⟨d, e, rfl, q⟩ := q1
    cases r1 with
    | cons r1 r2 =>
      cases r2 with
      | cons r2 r3 =>
        cases r3
        exact ⟨_, _, rfl, k.nx _ H1 F1 _ (((s.grow g1 s1).set i r1).set j r2) (g0.trans g1) q⟩
end

/-! ### calls and defs -/
abbrev PSp := List PyData → (PyData → Prop) → Prop
abbrev ZSp := List PyData → Nat → (PyData → Nat → Prop) → Prop
/-- the promise of a def that draws nothing -/
def spP (np : Nat) (sp : PSp) : Sp := fun vs H Q _ => vs.length = np ∧ ∃ F ds P, Ex F H ∧ RpA F vs ds ∧ sp ds P ∧ ∀ v H' F' d, Grow z0 F H F' H' → Rp F' v d → P d → Q v H'
/-- the promise of a def whose first argument is the stream -/
def spZ (np : Nat) (sp : ZSp) : Sp := fun vs H Q _ => vs.length = np + 1 ∧ ∃ st sl us F ds n P, vs = .ref st :: us ∧ Ex F H ∧ F st = none ∧ F sl = none ∧ Stm (zs (st, sl)) n H ∧ RpA F us ds ∧ sp ds n P ∧
  ∀ v H' F' d n', Grow (zs (st, sl)) F H F' H' → Stm (zs (st, sl)) n' H' → Rp F' v d → P d n' → Q v H'
section
variable {z : Zn} {X : Cx} {e : Expr} {es : List Expr} {ta : TA} {wa : WA} {pos p p0 : Pos} {k np : Nat} {f : Addr} {fd : FuncData} {ps : List Str}
@[simp] def wCall (np : Nat) (sp : PSp) (w : WA) : WE := fun en P => w en fun ds n => ds.length = np ∧ sp ds fun d => P d n
theorem den_call {sp : PSp} (h : DenA z ta wa) : Den z (tCall (spP np sp) [] E0 ta) (wCall np sp wa) := fun B σ H F en s P Q hw kk =>
  h B σ H F en s _ _ hw fun vs H1 F1 ds n1 g1 s1 r1 q1 => by
    rw [List.append_nil]
    refine ⟨by rw [r1.length]; exact q1.1, F1, ds, _, g1.sub, r1, q1.2, fun v H2 F2 d g2 r2 q2 => ?_⟩
    exact kk v H2 F2 d n1 (g1.trans g2.weak) (s1.ex g2.ex) r2 q2
theorem je_call {x : Str} {sp : PSp} (G : FnOk X.prog X.w X.K X.mg X.base CX0 k f fd ps (spP np sp)) (hr : Room k X.A) (hm : X.mg x = some (.ref f)) (hk : PySem.W.keepIn X.K (.ref f) = true) (hb : Binds X.K fd ps []) (ha : JA z X (e :: es) ta wa) (hg : Gl X x := by rfl)
    (hdb : (x == ("__debug__" : Str)) = false := by decide) (he : starEach (e :: es) X.env = (false, eval e X.env) :: starEach es X.env := by rfl) (hpl : (backTo pos (starEach es X.env)).any (·.1) = false := by rfl) :
    JE z X (.Call (.Name x p) (e :: es) [] pos) (tCall (spP np sp) [] E0 ta) (wCall np sp wa) := ⟨pe_call G hr hg hm hk hb .nil pass0 ha.pa hdb he hpl, den_call ha.de⟩
@[simp] def wCallZ (i np : Nat) (sp : ZSp) (w : WA) : WE := fun en P => en.s[i]? = some .stm ∧ w en fun ds n => ds.length = np ∧ sp ds n P
theorem den_callZ {i : Nat} {sp : ZSp} (h : DenA z ta wa) : Den z (tCall (spZ np sp) [] E0 (tCons (tVar i) ta)) (wCallZ i np sp wa) := fun B σ H F en s P Q hw kk => by
  obtain ⟨h1, h2⟩ := hw
  obtain ⟨o, e1, st, sl, hz, rfl⟩ := s.slot i _ h1
  refine ⟨.ref st, e1, ?_⟩
  refine h B σ H F en s _ _ h2 fun vs H1 F1 ds n1 g1 s1 r1 q1 => ?_
  show spZ np sp ((V.ref st :: vs) ++ []) H1 Q E0
  rw [List.append_nil]
  have o1 : ∀ b, Zv z b → F1 b = none := fun b hb => s1.off g1 hb (s.stm.there hb) (s.off b hb)
  have zi : ∀ c, Zv (zs (st, sl)) c → Zv z c := fun c hc => .inl (by rw [hz]; exact zv_zs.mp hc)
  refine ⟨by rw [List.length_cons, r1.length, q1.1], st, sl, vs, F1, ds, n1, _, rfl, g1.sub, o1 st (zi _ (zv_zs.mpr (.inl rfl))), o1 sl (zi _ (zv_zs.mpr (.inr rfl))), ⟨by have := s1.s; rw [hz] at this; exact this, fun _ q => (nomatch q)⟩, r1, q1.2, fun v H2 F2 d n2 g2 s2 r2 q2 => ?_⟩
  exact kk v H2 F2 d n2 (g1.trans (g2.widen zi)) (s1.widen g2 s2 hz.symm rfl) r2 q2
theorem je_callZ {x y : Str} {sp : ZSp} (i : Nat) (G : FnOk X.prog X.w X.K X.mg X.base CX0 k f fd ps (spZ np sp)) (hr : Room k X.A) (hm : X.mg x = some (.ref f)) (hk : PySem.W.keepIn X.K (.ref f) = true) (hb : Binds X.K fd ps []) (ha : JA z X es ta wa) (hg : Gl X x := by rfl)
    (hN : X.N[i]? = some y := by rfl) (hv : Vis X.env.scope y := by first | exact Or.inl rfl | exact Or.inr (Or.inl rfl) | exact Or.inr (Or.inr rfl)) (hd : (y == ("__debug__" : Str)) = false := by decide) (hcd : (y == ("__classdict__" : Str)) = false := by decide)
    (hdb : (x == ("__debug__" : Str)) = false := by decide) (he : starEach (.Name y p0 :: es) X.env = (false, eval (.Name y p0) X.env) :: starEach es X.env := by rfl) (hpl : (backTo pos (starEach es X.env)).any (·.1) = false := by rfl) :
    JE z X (.Call (.Name x p) (.Name y p0 :: es) [] pos) (tCall (spZ np sp) [] E0 (tCons (tVar i) ta)) (wCallZ i np sp wa) := ⟨pe_call G hr hg hm hk hb .nil pass0 (pa_cons (pe_var hN hv hd hcd) ha.pa he) hdb he hpl, den_callZ ha.de⟩
end
theorem SR.val {z : Zn} {B F H : Hp} {v : V} {d : PyData} (r : Rp F v d) : SR z B F H (some v) (.val d) := ⟨v, rfl, r⟩
/-- the slots at a def's entry -/
def startE (N : List Str) (ds : List PyData) : En := ⟨ds.map S.val ++ List.replicate (N.length - ds.length) .no, 0⟩
def startZ (N : List Str) (ds : List PyData) (n : Nat) : En := ⟨.stm :: (ds.map S.val ++ List.replicate (N.length - 1 - ds.length) .no), n⟩
theorem sit_vals {z : Zn} {B H F : Hp} {vs : List V} {ds : List PyData} {m n : Nat} (r : RpA F vs ds) (s : Stm z n H) (o : ∀ b, Zv z b → F b = none) (e : Ex F H) : Sit z B (vs.map some ++ List.replicate m none) H F ⟨ds.map S.val ++ List.replicate m .no, n⟩ where
  sub := e
  stm := s
  off := o
  len := by simp [r.length]
  slot := fun i x h => by
    have h : (ds.map S.val ++ List.replicate m .no)[i]? = some x := h
    by_cases hi : i < ds.length
    · rw [List.getElem?_append_left (by simpa using hi), List.getElem?_map] at h
      cases q : ds[i]? with
      | none => rw [q] at h; cases h
      | some d =>
        rw [q] at h
        cases h
        obtain ⟨v, h1, h2⟩ := r.get q
        refine ⟨some v, ?_, v, rfl, h2⟩
        rw [List.getElem?_append_left (by simpa [r.length] using hi), List.getElem?_map, h1]
        rfl
    · rw [List.getElem?_append_right (by simpa using Nat.le_of_not_lt hi), List.getElem?_replicate] at h
      split at h
      · cases h
        refine ⟨none, ?_, trivial⟩
        rw [List.getElem?_append_right (by simpa [r.length] using Nat.le_of_not_lt hi), List.getElem?_replicate]
        simp only [List.length_map, r.length] at *
        rw [if_pos (by assumption)]
      · cases h
  sep := fun i j es fs l _ h _ oe => by
    have h : (ds.map S.val ++ List.replicate m .no)[i]? = some es := h
    by_cases hi : i < ds.length
    · rw [List.getElem?_append_left (by simpa using hi), List.getElem?_map] at h
      cases q : ds[i]? with
      | none => rw [q] at h; cases h
      | some d => rw [q] at h; cases h; exact absurd oe Bool.false_ne_true
    · rw [List.getElem?_append_right (by simpa using Nat.le_of_not_lt hi), List.getElem?_replicate] at h
      split at h <;> cases h
      exact absurd oe Bool.false_ne_true
theorem sit_stm {z : Zn} {st sl : Addr} {B H F : Hp} {σ : L2.St} {en : List S} {n : Nat} (hz : z.st = some (st, sl)) (s : Sit z B σ H F ⟨en, n⟩) : Sit z B (some (.ref st) :: σ) H F ⟨.stm :: en, n⟩ where
  sub := s.sub
  stm := s.stm
  off := s.off
  len := by simpa using s.len
  slot := fun i x h => by
    cases i with
    | zero => cases h; exact ⟨_, rfl, st, sl, hz, rfl⟩
    | succ i => exact s.slot i x h
  sep := fun i j es fs l hij h1 h2 o1 o2 h3 => by
    cases i with
    | zero => cases h1; exact absurd o1 Bool.false_ne_true
    | succ i =>
      cases j with
      | zero => cases h2; exact absurd o2 Bool.false_ne_true
      | succ j => exact s.sep i j es fs l (fun q => hij (by rw [q])) h1 h2 o1 o2 h3
section
variable {P : Program} {w : World} {K : PySem.W.Frag} {mg : Str → Option Value} {base : Heap} {x qual : Str} {st : Stmt} {f : Addr} {fd : FuncData} {N ps : List Str} {k : Nat}
/-- THE RULE for a def that draws nothing -/
theorem fn_p {sp : PSp} (F : Fun K x qual st f fd) (S : FnScope N ps (defScope st))
    (hbody : ∀ (cdv : Value) (A : Around) (outer : List Env) (s : Shared) (H : Hp) (E : XK), Room k (A.deeper (envOfC qual (defScope st) s.heap.objs.size f cdv)) →
      ∃ t wb, JSs z0 (cxOf CX0 P w K mg base N qual (defScope st) f cdv A outer s H E).nox (defBody st) t wb ∧ ∀ ds Q, ds.length = ps.length → sp ds Q → wb { nx := fun _ => Q .none, rt := fun d _ => Q d } (startE N ds)) :
    FnOk P w K mg base CX0 (k + 1) f fd ps (spP ps.length sp) := by
  refine F.ok S (fun vs H Q E h => h.1) (fun cdv A outer s H vs Q E hr h => ?_)
  obtain ⟨hl, F0, ds, R, e, r, q, kk⟩ := h
  obtain ⟨t, wb, J, hwb⟩ := hbody cdv A outer s H E hr
  refine ⟨t, J.ps, ?_⟩
  have hs : Sit z0 H (L2.start N vs) H F0 (startE N ds) := by
    have := sit_vals (z := z0) (B := H) (m := N.length - vs.length) (n := 0) r ⟨trivial, fun _ q => (nomatch q)⟩ (fun _ q => (zv_z0 q).elim) e
    unfold L2.start startE
    rw [← r.length]
    exact this
  exact J.de H F0 (L2.start N vs) H F0 _ _ _ hs (Grow.refl e) (hwb ds R (by rw [← r.length]; exact hl) q) ⟨fun σ' H' F' en' s' g' q' => kk .non H' F' .none g' .non q', fun v H' F' d n g' _ r' q' => kk v H' F' d g' r' q', fun _ _ _ _ _ _ q => q.elim, fun _ _ _ _ _ _ q => q.elim, fun _ _ _ _ _ _ _ _ _ _ q => q.elim⟩
/-- THE RULE for a def whose first parameter is the stream -/
theorem fn_z {np : Nat} {sp : ZSp} (F : Fun K x qual st f fd) (S : FnScope N ps (defScope st)) (hnp : ps.length = np + 1)
    (hbody : ∀ (z : Addr × Addr) (cdv : Value) (A : Around) (outer : List Env) (s : Shared) (H : Hp) (E : XK), Room k (A.deeper (envOfC qual (defScope st) s.heap.objs.size f cdv)) →
      ∃ t wb, JSs (zs z) (cxOf CX0 P w K mg base N qual (defScope st) f cdv A outer s H E).nox (defBody st) t wb ∧ ∀ ds n Q, ds.length = np → sp ds n Q → wb { nx := fun en => Q .none en.n, rt := Q } (startZ N ds n)) :
    FnOk P w K mg base CX0 (k + 1) f fd ps (spZ np sp) := by
  refine F.ok S (fun vs H Q E h => h.1.trans hnp.symm) (fun cdv A outer s H vs Q E hr h => ?_)
  obtain ⟨hl, st', sl, us, F0, ds, n, R, rfl, e, o1, o2, hS, r, q, kk⟩ := h
  obtain ⟨t, wb, J, hwb⟩ := hbody (st', sl) cdv A outer s H E hr
  refine ⟨t, J.ps, ?_⟩
  have off : ∀ b, Zv (zs (st', sl)) b → F0 b = none := fun b hb => by
    rcases zv_zs.mp hb with hb | hb
    · rw [hb]; exact o1
    · rw [hb]; exact o2
  have hs : Sit (zs (st', sl)) H (L2.start N (.ref st' :: us)) H F0 (startZ N ds n) := by
    have := sit_stm (z := zs (st', sl)) rfl (sit_vals (B := H) (m := N.length - 1 - us.length) (n := n) r hS off e)
    have e1 : N.length - (us.length + 1) = N.length - 1 - us.length := by omega
    unfold L2.start startZ
    rw [List.length_cons, e1, ← r.length]
    exact this
  have hl' : ds.length = np := by
    rw [← r.length]
    simpa using hl
  exact J.de H F0 _ H F0 _ _ _ hs (Grow.refl e) (hwb ds n R hl' q) ⟨fun σ' H' F' en' s' g' q' => kk .non H' F' .none en'.n g' s'.stm .non q', fun v H' F' d n g' st' r' q' => kk v H' F' d n g' st' r' q', fun _ _ _ _ _ _ q => q.elim, fun _ _ _ _ _ _ q => q.elim, fun _ _ _ _ _ _ _ _ _ _ q => q.elim⟩
end
end DD
/-! The Deep layer, 7: defs by names, comparisons as tests, helpers. -/
namespace DD
open PySem PySem.Spec PyProof.Rows L2
open Evl (Ex)
/-- the built-in names that the texts use -/
def BI : List Str := ["isinstance", "list", "tuple", "int", "bool", "str", "dict", "len", "all", "any", "zip", "range", "sorted", "abs"]
/-- a def of the text, as the top has left it -/
structure DefT (K : PySem.W.Frag) (mg : Str → Option Value) (x : Str) (st : Stmt) (ps : List Str) : Prop where
  ex : ∃ f fd, Fun K x x st f fd ∧ mg x = some (.ref f) ∧ Binds K fd ps []
structure DefP (P : Program) (w : World) (K : PySem.W.Frag) (mg : Str → Option Value) (base : Heap) (k : Nat) (x : Str) (np : Nat) (sp : PSp) : Prop where
  ex : ∃ f fd ps, FnOk P w K mg base CX0 k f fd ps (spP np sp) ∧ mg x = some (.ref f) ∧ PySem.W.keepIn K (.ref f) = true ∧ Binds K fd ps []
structure DefZ (P : Program) (w : World) (K : PySem.W.Frag) (mg : Str → Option Value) (base : Heap) (k : Nat) (x : Str) (np : Nat) (sp : ZSp) : Prop where
  ex : ∃ f fd ps, FnOk P w K mg base CX0 k f fd ps (spZ np sp) ∧ mg x = some (.ref f) ∧ PySem.W.keepIn K (.ref f) = true ∧ Binds K fd ps []
section
variable {P : Program} {w : World} {K : PySem.W.Frag} {mg : Str → Option Value} {base : Heap} {x : Str} {st : Stmt} {N ps : List Str} {k : Nat}
theorem DefT.p {sp : PSp} (D : DefT K mg x st ps) (N : List Str) (S : FnScope N ps (defScope st))
    (hbody : ∀ (f : Addr) (cdv : Value) (A : Around) (outer : List Env) (s : Shared) (H : Hp) (E : XK), Room k (A.deeper (envOfC x (defScope st) s.heap.objs.size f cdv)) →
      ∃ t wb, JSs z0 (cxOf CX0 P w K mg base N x (defScope st) f cdv A outer s H E).nox (defBody st) t wb ∧ ∀ ds Q, ds.length = ps.length → sp ds Q → wb { nx := fun _ => Q .none, rt := fun d _ => Q d } (startE N ds)) :
    DefP P w K mg base (k + 1) x ps.length sp := by
  obtain ⟨f, fd, F, hm, hb⟩ := D.ex
  exact ⟨f, fd, ps, fn_p F S (hbody f), hm, F.kp, hb⟩
theorem DefT.z {np : Nat} {sp : ZSp} (D : DefT K mg x st ps) (N : List Str) (S : FnScope N ps (defScope st)) (hnp : ps.length = np + 1)
    (hbody : ∀ (f : Addr) (z : Addr × Addr) (cdv : Value) (A : Around) (outer : List Env) (s : Shared) (H : Hp) (E : XK), Room k (A.deeper (envOfC x (defScope st) s.heap.objs.size f cdv)) →
      ∃ t wb, JSs (zs z) (cxOf CX0 P w K mg base N x (defScope st) f cdv A outer s H E).nox (defBody st) t wb ∧ ∀ ds n Q, ds.length = np → sp ds n Q → wb { nx := fun en => Q .none en.n, rt := Q } (startZ N ds n)) :
    DefZ P w K mg base (k + 1) x np sp := by
  obtain ⟨f, fd, F, hm, hb⟩ := D.ex
  exact ⟨f, fd, ps, fn_z F S hnp (hbody f), hm, F.kp, hb⟩
theorem DefT.none {np : Nat} (D : DefT K mg x st ps) (h : ps.length = np) : DefP P w K mg base 0 x np (fun _ _ => False) := by
  obtain ⟨f, fd, F, hm, hb⟩ := D.ex
  exact ⟨f, fd, ps, ⟨fun vs H Q E ⟨hl, _⟩ => hl.trans h.symm, fun A outer s H args us vs Q E hr e hb r ⟨_, _, _, _, _, _, z, _⟩ => z.elim⟩, hm, F.kp, hb⟩
theorem DefT.noneZ {np : Nat} (D : DefT K mg x st ps) (h : ps.length = np + 1) : DefZ P w K mg base 0 x np (fun _ _ _ => False) := by
  obtain ⟨f, fd, F, hm, hb⟩ := D.ex
  exact ⟨f, fd, ps, ⟨fun vs H Q E hh => hh.1.trans h.symm, fun A outer s H args us vs Q E hr e hb r ⟨_, _, _, _, _, _, _, _, _, _, _, _, _, _, z, _⟩ => z.elim⟩, hm, F.kp, hb⟩
theorem DefP.imp {np : Nat} {sp sp' : PSp} (D : DefP P w K mg base k x np sp) (h : ∀ ds Q, ds.length = np → sp' ds Q → sp ds Q) : DefP P w K mg base k x np sp' := by
  obtain ⟨f, fd, ps, F, r⟩ := D.ex
  exact ⟨f, fd, ps, F.imp fun vs H Q E ⟨hl, F0, ds, R, e, ra, q, kk⟩ => ⟨hl, F0, ds, R, e, ra, h ds R (by rw [← ra.length]; exact hl) q, kk⟩, r⟩
theorem DefP.mono {np j : Nat} {sp : PSp} (D : DefP P w K mg base j x np sp) (h : j ≤ k) : DefP P w K mg base k x np sp := by
  obtain ⟨f, fd, ps, F, r⟩ := D.ex
  exact ⟨f, fd, ps, F.mono h, r⟩
theorem DefZ.imp {np : Nat} {sp sp' : ZSp} (D : DefZ P w K mg base k x np sp) (h : ∀ ds n Q, ds.length = np → sp' ds n Q → sp ds n Q) : DefZ P w K mg base k x np sp' := by
  obtain ⟨f, fd, ps, F, r⟩ := D.ex
  refine ⟨f, fd, ps, F.imp fun vs H Q E h' => ?_, r⟩
  obtain ⟨hl, st', sl, us, F0, ds, n, R, rfl, e, o1, o2, hS, ra, q, kk⟩ := h'
  exact ⟨hl, st', sl, us, F0, ds, n, R, rfl, e, o1, o2, hS, ra, h ds n R (by rw [← ra.length]; simpa using hl) q, kk⟩
theorem DefZ.mono {np j : Nat} {sp : ZSp} (D : DefZ P w K mg base j x np sp) (h : j ≤ k) : DefZ P w K mg base k x np sp := by
  obtain ⟨f, fd, ps, F, r⟩ := D.ex
  exact ⟨f, fd, ps, F.mono h, r⟩
end
section
variable {z : Zn} {X : Cx} {e a b : Expr} {es : List Expr} {t ta' tb : TE} {ta : TA} {wa : WA} {we wx : WE} {pos p p0 : Pos} {k j np : Nat}
theorem jt_b_den {t : TE} {w : WE} (h : Den z t w) : DenT z (tB t) (wB w) := fun B σ H F en s P Q hw k => by
  refine h B σ H F en s _ _ hw fun v H1 F1 d n1 g1 s1 r1 q1 => ?_
  obtain ⟨b, rfl, q⟩ := q1
  cases r1
  exact ⟨b, rfl, k b H1 F1 n1 g1 s1 q⟩
theorem je_f {x : Str} {sp : PSp} (D : DefP X.prog X.w X.K X.mg X.base j x np sp) (hr : Room k X.A) (ha : JA z X (e :: es) ta wa) (hk : j ≤ k := by first | decide | omega) (hg : Gl X x := by rfl)
    (hdb : (x == ("__debug__" : Str)) = false := by decide) (he : starEach (e :: es) X.env = (false, eval e X.env) :: starEach es X.env := by rfl) (hpl : (backTo pos (starEach es X.env)).any (·.1) = false := by rfl) :
    JE z X (.Call (.Name x p) (e :: es) [] pos) (tCall (spP np sp) [] E0 ta) (wCall np sp wa) := by
  obtain ⟨f, fd, ps, F, hm, hkp, hb⟩ := D.ex
  exact je_call F (hr.mono hk) hm hkp hb ha hg hdb he hpl
theorem je_z {x y : Str} {sp : ZSp} (i : Nat) (D : DefZ X.prog X.w X.K X.mg X.base j x np sp) (hr : Room k X.A) (ha : JA z X es ta wa) (hk : j ≤ k := by first | decide | omega) (hg : Gl X x := by rfl)
    (hN : X.N[i]? = some y := by rfl) (hv : Vis X.env.scope y := by first | exact Or.inl rfl | exact Or.inr (Or.inl rfl) | exact Or.inr (Or.inr rfl)) (hd : (y == ("__debug__" : Str)) = false := by decide) (hcd : (y == ("__classdict__" : Str)) = false := by decide)
    (hdb : (x == ("__debug__" : Str)) = false := by decide) (he : starEach (.Name y p0 :: es) X.env = (false, eval (.Name y p0) X.env) :: starEach es X.env := by rfl) (hpl : (backTo pos (starEach es X.env)).any (·.1) = false := by rfl) :
    JE z X (.Call (.Name x p) (.Name y p0 :: es) [] pos) (tCall (spZ np sp) [] E0 (tCons (tVar i) ta)) (wCallZ i np sp wa) := by
  obtain ⟨f, fd, ps, F, hm, hkp, hb⟩ := D.ex
  exact je_callZ i F (hr.mono hk) hm hkp hb ha hg hN hv hd hcd hdb he hpl
/-- a comparison, as a value and as a test -/
structure JC (z : Zn) (X : Cx) (op : CmpOp) (r : R2) (f : PyData → PyData → (PyData → Prop) → Prop) : Prop where
  op : OpR X (compareOp op) r
  de : DenR z r f
theorem jc_v {op : CmpOp} {r : R2} {f : PyData → PyData → (PyData → Prop) → Prop} (c : JC z X op r f) (ha : JE z X a ta' we) (hb : JE z X b tb wx) (hm : behindInMarks op b = false := by first | exact nomark _ | rfl) : JE z X (.Compare a [op] [b] pos) (tOp r ta' tb) (wOp f we wx) := je_cmp c.op c.de ha hb hm
theorem jc_t {op : CmpOp} {r : R2} {f : PyData → PyData → (PyData → Prop) → Prop} (c : JC z X op r f) (ha : JE z X a ta' we) (hb : JE z X b tb wx) (hm : behindInMarks op b = false := by first | exact nomark _ | rfl) : JT z X (.Compare a [op] [b] pos) (tTest (tOp r ta' tb)) (wB (wOp f we wx)) where
  pt := pt_cmpR c.op ha.pe hb.pe hm
  de := (jt_b_den (den_op c.de ha.de hb.de))
theorem c_eq (hr : Room k X.A) : JC z X .Eq (kR rEqD) fEq := ⟨kR_ok (op_eqD hr.units), den_eq⟩
theorem c_ne (hr : Room k X.A) : JC z X .NotEq (kR rNeD) fNe := ⟨kR_ok (op_neD hr.units), den_ne⟩
theorem c_in (hr : Room k X.A) : JC z X .In (kR rInD) fIn := ⟨kR_ok (op_inD (units65 hr)), den_in⟩
theorem c_notIn (hr : Room k X.A) : JC z X .NotIn (kR rNotInD) fNotIn := ⟨kR_ok (op_notInD (units65 hr)), den_notIn⟩
theorem c_lt : JC z X .Lt (rI0 fun i j => .bl (decide (i < j))) (fI0 fun i j => .bool (decide (i < j))) := ⟨op_lt, den_I0 fun _ _ _ => .bl _⟩
theorem c_le : JC z X .LtE (rI0 fun i j => .bl (decide (i ≤ j))) (fI0 fun i j => .bool (decide (i ≤ j))) := ⟨op_le, den_I0 fun _ _ _ => .bl _⟩
theorem c_gt : JC z X .Gt (rI0 fun i j => .bl (decide (j < i))) (fI0 fun i j => .bool (decide (j < i))) := ⟨op_gt, den_I0 fun _ _ _ => .bl _⟩
theorem c_ge : JC z X .GtE (rI0 fun i j => .bl (decide (j ≤ i))) (fI0 fun i j => .bool (decide (j ≤ i))) := ⟨op_ge, den_I0 fun _ _ _ => .bl _⟩
theorem jt_isN {jj} (ha : JE z X a ta' we) : JT z X (.Compare a [.Is] [.Constant .none jj p] pos) (tB (tIsN ta')) (wB (wIsN we)) where
  pt := pt_cmp (pc_isN ha.pe) rfl
  de := jt_b_den (je_isN (p := p) (pos := pos) (j := jj) ha).de
theorem jt_notN {jj} (ha : JE z X a ta' we) : JT z X (.Compare a [.IsNot] [.Constant .none jj p] pos) (tB (tNotN ta')) (wB (wNotN we)) where
  pt := pt_cmp (pc_notN ha.pe) rfl
  de := jt_b_den (je_notN (p := p) (pos := pos) (j := jj) ha).de
theorem je_isi_int (bi : ∀ x ∈ BI, X.mg x = none) (h : JE z X e t we) (g1 : Gl X "isinstance" := by rfl) (g2 : Gl X "int" := by rfl) (s2 : starEach [Expr.Name "int" p0] X.env = (false, eval (Expr.Name "int" p0) X.env) :: starEach [] X.env := by rfl)
    (s1 : starEach [e, Expr.Name "int" p0] X.env = (false, eval e X.env) :: starEach [Expr.Name "int" p0] X.env := by rfl) (hpl : (backTo pos (starEach [Expr.Name "int" p0] X.env)).any (·.1) = false := by rfl) :
    JE z X (.Call (.Name "isinstance" p) [e, .Name "int" p0] [] pos) (tCB (kC yIsi) (tCons t (tCons (tC (.ty "int")) tNil))) (wFun (fun d => .bool (isInt d)) we) := je_isi g1 (bi _ (by decide)) g2 (bi _ (by decide)) (by decide +kernel) kit_int h (by decide) (by decide) s2 s1 hpl
theorem je_isi_bool (bi : ∀ x ∈ BI, X.mg x = none) (h : JE z X e t we) (g1 : Gl X "isinstance" := by rfl) (g2 : Gl X "bool" := by rfl) (s2 : starEach [Expr.Name "bool" p0] X.env = (false, eval (Expr.Name "bool" p0) X.env) :: starEach [] X.env := by rfl)
    (s1 : starEach [e, Expr.Name "bool" p0] X.env = (false, eval e X.env) :: starEach [Expr.Name "bool" p0] X.env := by rfl) (hpl : (backTo pos (starEach [Expr.Name "bool" p0] X.env)).any (·.1) = false := by rfl) :
    JE z X (.Call (.Name "isinstance" p) [e, .Name "bool" p0] [] pos) (tCB (kC yIsi) (tCons t (tCons (tC (.ty "bool")) tNil))) (wFun (fun d => .bool (isBoo d)) we) := je_isi g1 (bi _ (by decide)) g2 (bi _ (by decide)) (by decide +kernel) kit_bool h (by decide) (by decide) s2 s1 hpl
theorem je_isi_str (bi : ∀ x ∈ BI, X.mg x = none) (h : JE z X e t we) (g1 : Gl X "isinstance" := by rfl) (g2 : Gl X "str" := by rfl) (s2 : starEach [Expr.Name "str" p0] X.env = (false, eval (Expr.Name "str" p0) X.env) :: starEach [] X.env := by rfl)
    (s1 : starEach [e, Expr.Name "str" p0] X.env = (false, eval e X.env) :: starEach [Expr.Name "str" p0] X.env := by rfl) (hpl : (backTo pos (starEach [Expr.Name "str" p0] X.env)).any (·.1) = false := by rfl) :
    JE z X (.Call (.Name "isinstance" p) [e, .Name "str" p0] [] pos) (tCB (kC yIsi) (tCons t (tCons (tC (.ty "str")) tNil))) (wFun (fun d => .bool (isStr d)) we) := je_isi g1 (bi _ (by decide)) g2 (bi _ (by decide)) (by decide +kernel) kit_str h (by decide) (by decide) s2 s1 hpl
theorem je_isi_list (bi : ∀ x ∈ BI, X.mg x = none) (h : JE z X e t we) (g1 : Gl X "isinstance" := by rfl) (g2 : Gl X "list" := by rfl) (s2 : starEach [Expr.Name "list" p0] X.env = (false, eval (Expr.Name "list" p0) X.env) :: starEach [] X.env := by rfl)
    (s1 : starEach [e, Expr.Name "list" p0] X.env = (false, eval e X.env) :: starEach [Expr.Name "list" p0] X.env := by rfl) (hpl : (backTo pos (starEach [Expr.Name "list" p0] X.env)).any (·.1) = false := by rfl) :
    JE z X (.Call (.Name "isinstance" p) [e, .Name "list" p0] [] pos) (tCB (kC yIsi) (tCons t (tCons (tC (.ty "list")) tNil))) (wFun (fun d => .bool (isLst d)) we) := je_isi g1 (bi _ (by decide)) g2 (bi _ (by decide)) (by decide +kernel) kit_list h (by decide) (by decide) s2 s1 hpl
theorem je_isi_tuple (bi : ∀ x ∈ BI, X.mg x = none) (h : JE z X e t we) (g1 : Gl X "isinstance" := by rfl) (g2 : Gl X "tuple" := by rfl) (s2 : starEach [Expr.Name "tuple" p0] X.env = (false, eval (Expr.Name "tuple" p0) X.env) :: starEach [] X.env := by rfl)
    (s1 : starEach [e, Expr.Name "tuple" p0] X.env = (false, eval e X.env) :: starEach [Expr.Name "tuple" p0] X.env := by rfl) (hpl : (backTo pos (starEach [Expr.Name "tuple" p0] X.env)).any (·.1) = false := by rfl) :
    JE z X (.Call (.Name "isinstance" p) [e, .Name "tuple" p0] [] pos) (tCB (kC yIsi) (tCons t (tCons (tC (.ty "tuple")) tNil))) (wFun (fun d => .bool (isTup d)) we) := je_isi g1 (bi _ (by decide)) g2 (bi _ (by decide)) (by decide +kernel) kit_tuple h (by decide) (by decide) s2 s1 hpl
theorem je_isi_dict (bi : ∀ x ∈ BI, X.mg x = none) (h : JE z X e t we) (g1 : Gl X "isinstance" := by rfl) (g2 : Gl X "dict" := by rfl) (s2 : starEach [Expr.Name "dict" p0] X.env = (false, eval (Expr.Name "dict" p0) X.env) :: starEach [] X.env := by rfl)
    (s1 : starEach [e, Expr.Name "dict" p0] X.env = (false, eval e X.env) :: starEach [Expr.Name "dict" p0] X.env := by rfl) (hpl : (backTo pos (starEach [Expr.Name "dict" p0] X.env)).any (·.1) = false := by rfl) :
    JE z X (.Call (.Name "isinstance" p) [e, .Name "dict" p0] [] pos) (tCB (kC yIsi) (tCons t (tCons (tC (.ty "dict")) tNil))) (wFun (fun d => .bool (isDic d)) we) := je_isi g1 (bi _ (by decide)) g2 (bi _ (by decide)) (by decide +kernel) kit_dict h (by decide) (by decide) s2 s1 hpl
theorem tr2 {T U : String} (σ : L2.St) (H : Hp) (Q : List V → Hp → Prop) (h : Q ([T, U].map V.ty) H) : tCons (tC (.ty T)) (tCons (tC (.ty U)) tNil) σ H Q := h
theorem tr3 {T U W : String} (σ : L2.St) (H : Hp) (Q : List V → Hp → Prop) (h : Q ([T, U, W].map V.ty) H) : tCons (tC (.ty T)) (tCons (tC (.ty U)) (tCons (tC (.ty W)) tNil)) σ H Q := h
theorem pe_ty {x : Str} {T : String} (hg : Gl X x) (hm : X.mg x = none) (hv : bootBuiltins x = some (.type T)) (hn : x ≠ "__name__" := by decide) (hd : (x == ("__debug__" : Str)) = false := by decide) : PE X (.Name x p) (tC (.ty T)) := pe_bltn hg hm hv (show RelV (.ty T) _ from rfl) hn hd
theorem je_isi_LT {p2 p3 tpos : Pos} {k1 : Nat} (bi : ∀ x ∈ BI, X.mg x = none) (h : JE z X e t we) (g1 : Gl X "isinstance" := by rfl) (g2 : Gl X "list" := by rfl) (g3 : Gl X "tuple" := by rfl)
    (s4 : starEach [Expr.Name "tuple" p3] X.env = (false, eval (Expr.Name "tuple" p3) X.env) :: starEach [] X.env := by rfl) (s3 : starEach [Expr.Name "list" p2, Expr.Name "tuple" p3] X.env = (false, eval (Expr.Name "list" p2) X.env) :: starEach [Expr.Name "tuple" p3] X.env := by rfl)
    (s2 : starEach [Expr.Tuple [.Name "list" p2, .Name "tuple" p3] k1 tpos] X.env = (false, eval (Expr.Tuple [.Name "list" p2, .Name "tuple" p3] k1 tpos) X.env) :: starEach [] X.env := by rfl)
    (s1 : starEach [e, Expr.Tuple [.Name "list" p2, .Name "tuple" p3] k1 tpos] X.env = (false, eval e X.env) :: starEach [Expr.Tuple [.Name "list" p2, .Name "tuple" p3] k1 tpos] X.env := by rfl) (hpl : (backTo pos (starEach [Expr.Tuple [.Name "list" p2, .Name "tuple" p3] k1 tpos] X.env)).any (·.1) = false := by rfl) :
    JE z X (.Call (.Name "isinstance" p) [e, .Tuple [.Name "list" p2, .Name "tuple" p3] k1 tpos] [] pos) (tCB (kC yIsiT) (tCons t (tCons (tTup (tCons (tC (.ty "list")) (tCons (tC (.ty "tuple")) tNil))) tNil))) (wFun (fun d => .bool (isSeq d)) we) :=
  je_isiT (Ts := ["list", "tuple"]) g1 (bi _ (by decide)) (pa_cons (pe_ty g2 (bi _ (by decide)) (by decide +kernel)) (pa_cons (pe_ty g3 (bi _ (by decide)) (by decide +kernel)) pa_nil s4) s3) tr2 kit_LT (by decide) h s2 s1 hpl
theorem je_isi_LTD {p2 p3 p4 tpos : Pos} {k1 : Nat} (bi : ∀ x ∈ BI, X.mg x = none) (h : JE z X e t we) (g1 : Gl X "isinstance" := by rfl) (g2 : Gl X "list" := by rfl) (g3 : Gl X "tuple" := by rfl) (g4 : Gl X "dict" := by rfl)
    (s5 : starEach [Expr.Name "dict" p4] X.env = (false, eval (Expr.Name "dict" p4) X.env) :: starEach [] X.env := by rfl) (s4 : starEach [Expr.Name "tuple" p3, .Name "dict" p4] X.env = (false, eval (Expr.Name "tuple" p3) X.env) :: starEach [Expr.Name "dict" p4] X.env := by rfl) (s3 : starEach [Expr.Name "list" p2, Expr.Name "tuple" p3, .Name "dict" p4] X.env = (false, eval (Expr.Name "list" p2) X.env) :: starEach [Expr.Name "tuple" p3, .Name "dict" p4] X.env := by rfl)
    (s2 : starEach [Expr.Tuple [.Name "list" p2, .Name "tuple" p3, .Name "dict" p4] k1 tpos] X.env = (false, eval (Expr.Tuple [.Name "list" p2, .Name "tuple" p3, .Name "dict" p4] k1 tpos) X.env) :: starEach [] X.env := by rfl)
    (s1 : starEach [e, Expr.Tuple [.Name "list" p2, .Name "tuple" p3, .Name "dict" p4] k1 tpos] X.env = (false, eval e X.env) :: starEach [Expr.Tuple [.Name "list" p2, .Name "tuple" p3, .Name "dict" p4] k1 tpos] X.env := by rfl) (hpl : (backTo pos (starEach [Expr.Tuple [.Name "list" p2, .Name "tuple" p3, .Name "dict" p4] k1 tpos] X.env)).any (·.1) = false := by rfl) :
    JE z X (.Call (.Name "isinstance" p) [e, .Tuple [.Name "list" p2, .Name "tuple" p3, .Name "dict" p4] k1 tpos] [] pos) (tCB (kC yIsiT) (tCons t (tCons (tTup (tCons (tC (.ty "list")) (tCons (tC (.ty "tuple")) (tCons (tC (.ty "dict")) tNil)))) tNil))) (wFun (fun d => .bool (isObjD d)) we) :=
  je_isiT (Ts := ["list", "tuple", "dict"]) g1 (bi _ (by decide)) (pa_cons (pe_ty g2 (bi _ (by decide)) (by decide +kernel)) (pa_cons (pe_ty g3 (bi _ (by decide)) (by decide +kernel)) (pa_cons (pe_ty g4 (bi _ (by decide)) (by decide +kernel)) pa_nil s5) s4) s3) tr3 kit_LTD (by decide) h s2 s1 hpl
end
end DD
/-! The Deep layer, 8: data compared by <, sorted, more statements. -/
namespace DD
open PySem PySem.Spec PyProof.Rows L2
open Evl (Ex)
open PySem.W (alike dataLt dataLe AllAlike Sortable EachIs)

/-- x < y of data that are alike -/
def okLt (d e : PyData) : Bool := flatD d && flatD e && alike d e && (match d with | .none => false | _ => true) && decide (d.depth ≤ 64)
def rLtD (K : PySem.W.Frag) : R2 := fun x y H Q => ∃ d e, Dp K H x d ∧ Dp K H y e ∧ alike d e = true ∧ d ≠ .none ∧ d.depth ≤ 64 ∧ Q (.bl (dataLt d e)) H
theorem op_ltD {X : Cx} (hu : X.A.units + 64 < cLine) : OpR X (compareOp .Lt) (rLtD X.K) := by
  intro pins s σ H x y v u Q I rx ry h
  obtain ⟨d, e, hd, he, ha, hn, hz, q⟩ := h
  obtain ⟨as, r1⟩ := Dp.reads I d x v hd rx
  obtain ⟨bs, r2⟩ := Dp.reads I e y u he ry
  exact PySem.W.rcLt_alike d e X.A s v u as bs r1 r2 ha hn (by omega) X.prog X.w X.xe (EP X pins σ Q) ⟨.bl _, H, I, rfl, q⟩
@[simp] def fLt : PyData → PyData → (PyData → Prop) → Prop := fun d e P => okLt d e = true ∧ P (.bool (dataLt d e))
theorem den_ltD {z : Zn} : DenR z (kR rLtD) fLt := by
  intro H F x y d e P Q s rx ry hf k K
  obtain ⟨h, q⟩ := hf
  unfold okLt at h
  simp only [Bool.and_eq_true, decide_eq_true_eq] at h
  obtain ⟨⟨⟨⟨h1, h2⟩, h3⟩, h4⟩, h5⟩ := h
  exact ⟨d, e, rx.dp s h1, ry.dp s h2, h3, (fun q => by rw [q] at h4; cases h4), h5, k _ H F _ (Grow.stay s) (.bl _) q⟩
theorem c_ltD {z : Zn} {X : Cx} {k : Nat} (hr : Room k X.A) : JC z X .Lt (kR rLtD) fLt := ⟨kR_ok (op_ltD hr.units), den_ltD⟩

/-! ### sorted -/
def rSrt (K : PySem.W.Frag) : List V → Hp → VK → Prop := fun vs H Q => ∃ (F : Hp) (a : Addr) (xs : List V) (ds : List PyData), vs = [V.ref a] ∧ Ex F H ∧ (SqL K H a xs) ∧ RpA F xs ds ∧ flatDs ds = true ∧ AllAlike ds ∧ Sortable ds ∧ (∀ d ∈ ds, d.depth ≤ 60) ∧
  ∀ (ys : List V) (p : Addr), RpA F ys (ds.mergeSort (dataLe false id)) → H p = none → Q (.ref p) (L2.upd H p (.lst ys))
theorem flatDs_mem {ds : List PyData} (h : flatDs ds = true) : ∀ d ∈ ds, flatD d = true := by
  induction ds with
  | nil => intro d hd; cases hd
  | cons x xs ih =>
    rw [flatDs, Bool.and_eq_true] at h
    intro d hd
    rcases List.mem_cons.mp hd with e | hd
    · rw [e]; exact h.1
    · exact ih h.2 d hd
theorem cr_srt {X : Cx} {k : Nat} (hr : Room k X.A) : CallR X (.builtin "sorted") (rSrt X.K) := by
  intro pins s σ H vs us Q I r h
  obtain ⟨F, a, xs, ds, rfl, e, hs, ra, hfl, hal, hsort, hdep, q⟩ := h
  obtain ⟨its, rv, hl, hz⟩ := I.list hs
  rw [Vals.ref1 r]
  have hlen : its.length = ds.length := by rw [← rv.length, ra.length]
  have each : EachIs (fun u d => ∃ x, RelV x u ∧ Rp F x d) its ds := by
    have key : ∀ (xs : List V) (its : List Value) (ds : List PyData), Vals xs its → RpA F xs ds → EachIs (fun u d => ∃ x, RelV x u ∧ Rp F x d) its ds := by
      intro xs
      induction xs with
      | nil => intro its ds h1 h2; cases h1; cases h2; exact .nil
      | cons x xs ih =>
        intro its ds h1 h2
        cases h1 with
        | cons r1 r2 => cases h2 with
          | cons q1 q2 => exact .cons ⟨x, r1, q1⟩ (ih _ _ r2 q2)
    exact key xs its ds rv ra
  have eachR : ∀ (us : List Value) (es : List PyData), flatDs es = true → EachIs (fun u d => ∃ x, RelV x u ∧ Rp F x d) us es → EachIs (fun u d => ∃ as, Reads s.heap u d as) us es := by
    intro us es hf h
    induction h with
    | nil => exact .nil
    | cons h1 h2 ih =>
      rw [flatDs, Bool.and_eq_true] at hf
      obtain ⟨x, rx, rp⟩ := h1
      exact .cons (Dp.reads I _ x _ (rp.dp (K := X.K) e hf.1) rx) (ih hf.2)
  have hmap : ds.map (id : PyData → PyData) = ds := by simp
  refine PySem.W.sorted_data (enc := id) (R := fun u d => ∃ x, RelV x u ∧ Rp F x d) hl.isList each (eachR _ _ hfl each) (by rw [hmap]; exact hal) (by rw [hmap]; exact hsort) (by rw [← ra.length]; exact hz)
    (fun b hb => by have := hdep b hb; have := hr.un; show X.A.units + 2 + (id b).depth < cLine; simp only [id]; omega) fun out ho he => ?_
  have back : ∀ (us : List Value) (es : List PyData), EachIs (fun u d => ∃ x, RelV x u ∧ Rp F x d) us es → ∃ ys : List V, Vals ys us ∧ RpA F ys es := by
    intro us es h
    induction h with
    | nil => exact ⟨[], .nil, .nil⟩
    | cons h1 h2 ih =>
      obtain ⟨ys, a1, a2⟩ := ih
      obtain ⟨x, b1, b2⟩ := h1
      exact ⟨x :: ys, .cons b1 a1, .cons b2 a2⟩
  obtain ⟨ys, y1, y2⟩ := back _ _ he
  obtain ⟨ep, he'⟩ := PyProof.Rows.sortedAll_at s.heap its out.toArray
  have hlen2 : ys.length ≤ sizeLine := by
    rw [y1.length, ho, ← ra.length]
    exact hz
  exact ⟨.ref _, L2.upd H (s.heap.objs.size + 1) (.lst ys), I.laid (t' := s.toks) (fun _ _ => PyProof.Rows.sortedAll_old) (Nat.le_succ _) ⟨hlen2, out, ep, y1, he'⟩, rfl, q _ _ y2 (I.hok.fresh (Nat.le_succ _))⟩
/-- may be sorted -/
structure OkSort (ds : List PyData) : Prop where
  fl : flatDs ds = true
  al : AllAlike ds
  so : Sortable ds
  dp : ∀ d ∈ ds, d.depth ≤ 60
section
variable {z : Zn} {X : Cx} {e : Expr} {t : TE} {we : WE} {p pos p0 p1 p2 p3 : Pos} {k : Nat}
@[simp] def wSorted (w : WE) : WA := fun en P => w en fun d n => ∃ ds, d = .list ds ∧ OkSort ds ∧ P (ds.mergeSort (dataLe false id)) n
theorem jl_sorted (hr : Room k X.A) (bi : ∀ x ∈ BI, X.mg x = none) (h : JE z X e t we) (hg : Gl X "sorted" := by rfl) (he : starEach [e] X.env = (false, eval e X.env) :: starEach [] X.env := by rfl) (hpl : (backTo pos (starEach [] X.env)).any (·.1) = false := by rfl) :
    JL z X (.Call (.Name "sorted" p) [e] [] pos) (tCB (kC rSrt) (tCons t tNil)) (wSorted we) where
  pe := pe_callB (kC_ok (cr_srt hr)) hg (bi _ (by decide)) (by decide +kernel) (pa_cons h.pe pa_nil he) (by decide) (by decide) he hpl
  de := fun B σ H F en s P Q hw kk => by
    refine h.de B σ H F en s _ _ hw fun v H1 F1 d n1 g1 s1 r1 q1 => ?_
    obtain ⟨ds, rfl, o, q⟩ := q1
    cases r1 with
    | lst e r =>
      intro K
      refine ⟨F1, _, _, ds, rfl, g1.sub, SqL.of (g1.sub _ _ e), r, o.fl, o.al, o.so, o.dp, fun ys l ry hl => ?_⟩
      exact kk l ys _ F1 _ n1 (g1.trans (Grow.fresh g1.sub hl)) (s1.new hl) (g1.dom l hl) (none_of_sub g1.sub hl) upd_same ry q
/-! ### more statements -/
/-- x.extend(e), e a list -/
@[simp] def wExt (i : Nat) (w : WE) : WS := fun P en => ∃ ds, en.s[i]? = some (.own ds) ∧ w en fun d n => ∃ es, d = .list es ∧ ds.length + es.length ≤ 100000 ∧ P.nx ⟨en.s.set i (.own (ds ++ es)), n⟩
theorem den_ext {K : PySem.W.Frag} {i : Nat} (h : Den z t we) : DenS z (tDrop (tBM K "list" rExtend (tVar i) (tCons t tNil))) (wExt i we) := fun B F0 σ H F en D P s g hw kk => by
  obtain ⟨ds, h1, h2⟩ := hw
  obtain ⟨l, xs, e1, e2, e3, e4, e5, e6⟩ := s.own h1
  refine ⟨.ref l, e1, .inl ⟨rfl, _, SqL.of e4⟩, ?_⟩
  refine h B σ H F en s _ _ h2 fun v H1 F1 d n1 g1 s1 r1 q1 => ?_
  obtain ⟨es, rfl, hl, q⟩ := q1
  have e4' : H1 l = some (.lst xs) := g1.keep l _ e3 e4
  have s2 := s.grow g1 s1
  cases r1 with
  | @lst a ys _ ea r =>
    refine ⟨l, a, xs, ys, rfl, rfl, e4', g1.sub _ _ ea, Evl.sz_of (by rw [e5.length, r.length]; exact hl), ?_⟩
    have e2' : F1 l = none := g1.apart e4 e3 (fun _ q => nomatch q) e2
    exact kk.nx σ _ F1 _ (s2.reown h1 e1 ((e5.mono g1.ext).append r)) ((g.trans g1).wrote (xs := xs) e6 e2') q
theorem js_ext {x : Str} (i : Nat) (h : JE z X e t we) (hN : X.N[i]? = some x := by rfl) (hv : Vis X.env.scope x := by first | exact Or.inl rfl | exact Or.inr (Or.inl rfl) | exact Or.inr (Or.inr rfl)) (hd : (x == ("__debug__" : Str)) = false := by decide)
    (hcd : (x == ("__classdict__" : Str)) = false := by decide)
    (hbase : attributeBase (.Name x p0) "extend" X.env (eval (.Name x p0) X.env) = eval (.Name x p0) X.env := by rfl)
    (hfew : ((backTo p2 (starEach [e] X.env)).all (fun x => !x.1) && (backToKw p2 (keywordEach [] X.env)).all (fun x => x.1.isSome)
      && decide ([e].length + ([] : List Keyword).length + (if ([] : List Keyword).isEmpty then 0 else 1) < 30)) = true := by rfl)
    (hline : (p1.endLine == p2.line) = true := by rfl)
    (he : starEach [e] X.env = (false, eval e X.env) :: starEach [] X.env := by rfl) (hpl : (backTo p2 (starEach [] X.env)).any (·.1) = false := by rfl)
    (hs : swapsWith (.Call (.Attribute (.Name x p0) "extend" p1) [e] [] p2) none p3.line X.env = pure false := by rfl) :
    JS z X (.Expr (.Call (.Attribute (.Name x p0) "extend" p1) [e] [] p2) p3) (tDrop (tBM X.K "list" rExtend (tVar i) (tCons t tNil))) (wExt i we) where
  ps := ps_expr (pe_bm PySem.F.plainAttrs_list PySem.F.slot_list_extend PySem.F.type_list_extend mt_extend (pv i hN hv hd hcd) (pa_cons h.pe pa_nil he) hbase hfew hline he hpl) hs
  de := den_ext h.de
/-- x[j] = e, x an own list -/
@[simp] def wSet (i : Nat) (w wi : WE) : WS := fun P en => ∃ ds, en.s[i]? = some (.own ds) ∧ w en fun d n => wi ⟨en.s, n⟩ fun ix n' => ∃ j m, ix = .int j ∧ ixN ds.length j = some m ∧ P.nx ⟨en.s.set i (.own (ds.set m d)), n'⟩
theorem den_set {ti : TE} {wi : WE} {i : Nat} (h : Den z t we) (hi : Den z ti wi) : DenS z (tAsg t (gSub (tVar i) ti rSetL)) (wSet i we wi) := fun B F0 σ H F en D P s g hw kk => by
  obtain ⟨ds, hds, hw⟩ := hw
  refine h B σ H F en s _ _ hw fun v H1 F1 d n1 g1 s1 r1 q1 => ?_
  have sa := s.grow g1 s1
  obtain ⟨l, xs, e1, e2, e3, e4, e5, e6⟩ := sa.own hds
  refine ⟨.ref l, e1, ?_⟩
  refine hi B σ H1 F1 _ sa _ _ q1 fun u H2 F2 ix n2 g2 s2 r2 q2 => ?_
  obtain ⟨j, m, rfl, h2, q⟩ := q2
  cases r2
  have e4' : H2 l = some (.lst xs) := g2.keep l _ e3 e4
  have sb := sa.grow g2 s2
  refine ⟨l, xs, j, m, rfl, rfl, e4', by rw [e5.length]; exact h2, ?_⟩
  have e2' : F2 l = none := g2.apart e4 e3 (fun _ q => nomatch q) e2
  exact kk.nx σ _ F2 _ (sb.reown hds e1 ((e5.mono g2.ext).set (r1.mono g2.ext) m)) (((g.trans g1).trans g2).wrote (xs := xs) e6 e2') q
theorem js_set {x : Str} {ix : Expr} {ti : TE} {wi : WE} (i : Nat) (h : JE z X e t we) (hi : JE z X ix ti wi) (hN : X.N[i]? = some x := by rfl) (hv : Vis X.env.scope x := by first | exact Or.inl rfl | exact Or.inr (Or.inl rfl) | exact Or.inr (Or.inr rfl)) (hd : (x == ("__debug__" : Str)) = false := by decide)
    (hcd : (x == ("__classdict__" : Str)) = false := by decide)
    (ha : ∀ v, assign (.Subscript (.Name x p0) ix p1) X.env v = (do
      let ov ← holding [v] (eval (.Name x p0) X.env)
      let iv ← holding [v, ov] (eval ix X.env)
      standAt p1
      holding [v, ov, iv] (setItem ov iv v)
      release [v, ov, iv] []) := by intro _; rfl)
    (hs : swapsWithSole [.Subscript (.Name x p0) ix p1] e pos.line X.env = pure false := by rfl) (hw : swappedStores [.Subscript (.Name x p0) ix p1] e X.env = pure none := by rfl)
    (h1 : (assignEach [.Subscript (.Name x p0) ix p1] X.env).map (·.2) = [assign (.Subscript (.Name x p0) ix p1) X.env] := by rfl) :
    JS z X (.Assign [.Subscript (.Name x p0) ix p1] e pos) (tAsg t (gSub (tVar i) ti rSetL)) (wSet i we wi) where
  ps := ps_asg h.pe (pg_sub (pv i hN hv hd hcd) hi.pe set_list ha) hs hw h1
  de := den_set h.de hi.de
theorem js_augAdd {x : Str} (i : Nat) (hN : X.N.Nodup) (hi : X.N[i]? = some x) (hx : Loc X.env.scope x) (h : JE z X e t we) (hf : X.fn x = true ∨ X.env.scope.names.lookup x = some .local := by first | exact .inl rfl | exact .inr rfl | assumption) :
    JS z X (.AugAssign (.Name x p) .Add e pos) (tAug i t (ipI fun i j => i + j)) (wAug (fun i j => i + j) i we) := ⟨ps_aug hN hi hx h.pe ip_add hf, den_aug h.de⟩
theorem js_par {i j : Nat} {x y : Str} {a b : Expr} {ta : TA} {wa : WA} {px py pt : Pos} {kt k2 pt2} (ia ja : Nat) (hN : X.N.Nodup) (hi : X.N[ia]? = some x) (hj : X.N[ja]? = some y) (ha : JA z X [a, b] ta wa) (hij : ia ≠ ja := by decide)
    (hx : X.env.scope.names.lookup x = some .local := by rfl) (hy : X.env.scope.names.lookup y = some .local := by rfl) (hc : X.calm = true := by rfl)
    (hw : swappedStores [.Tuple [.Name x px, .Name y py] kt pt] (.Tuple [a, b] k2 pt2) X.env = pure (some [x, y]) := by rfl)
    (hs : swapsWithSole [.Tuple [.Name x px, .Name y py] kt pt] (.Tuple [a, b] k2 pt2) pos.line X.env = pure false := by rfl) :
    JS z X (.Assign [.Tuple [.Name x px, .Name y py] kt pt] (.Tuple [a, b] k2 pt2) pos) (tPar ia ja ta) (wPar ia ja wa) := ⟨ps_par hc hN hi hj hij hx hy ha.pa hw hs, den_par ha.de⟩
/-- y = [.. for ..], a value -/
theorem js_setLcV {y : Str} {py : Pos} {elt tg iter : Expr} {ifs : List Expr} {scope : Scope} {spos : Pos} {wi : TI} {g : TG} {tt : TT} {te : TE} {ws : WA} {js : List Nat} {wg : En → PyData → (En → Prop) → Prop} {wt : WT} {we : WE} (i : Nat) (own : List (Str × Nat)) (hN : X.N.Nodup) (hy : X.N[i]? = some y) (hyl : X.env.scope.names.lookup y = some .local)
    (hsw : swapsWith (.ListComp elt [⟨tg, iter, ifs, 0⟩] scope pos) (some (.Name y py)) spos.line X.env = pure true) (hi : JI z X tg iter wi ws) (ok : blkC X.N X.env.scope scope own = true)
    (hg : ∀ (s : Shared) (H : Hp) (C : Addr) (cl : List (Str × Addr)) (fp : List Addr), JG z (X.blk s H scope (compEnvC scope cl C X.env) fp) tg g js wg) (ht : ∀ (s : Shared) (H : Hp) (C : Addr) (cl : List (Str × Addr)) (fp : List Addr), JTs z (X.blk s H scope (compEnvC scope cl C X.env) fp) ifs tt wt)
    (he : ∀ (s : Shared) (H : Hp) (C : Addr) (cl : List (Str × Addr)) (fp : List Addr), JE z (X.blk s H scope (compEnvC scope cl C X.env) fp) elt te we) (hc : X.calm = true := by rfl) (hj : ∀ j ∈ js, j ∈ own.map (·.2) := by decide)
    (hs : ∀ x, foldedSetIterable iter X.env x = pure x := by intro _; rfl) :
    JS z X (.Assign [.Name y py] (.ListComp elt [⟨tg, iter, ifs, 0⟩] scope pos) spos) (tAsg (tLc wi g tt te (own.map (·.2))) (gName i)) (wAsg (wAsL (wLc ws wg wt we (own.map (·.2)))) (wgN i)) where
  ps := ps_setLc hc hN hy hyl hsw hi.pi (blkOk_by ok) (fun s H C cl fp => (hg s H C cl fp).pg) (fun s H C cl fp => (ht s H C cl fp).pts) (fun s H C cl fp => (he s H C cl fp).pe) hs
  de := den_asg (jl_lc own hN hi ok hg ht he hc hj hs (pos := pos)).je'.de (js := [i]) fun B σ H F en v d s r P Q hw k => k _ _ (s.set i r) ⟨by simp, fun j hj => by
    rw [List.getElem?_set_ne]
    intro q
    exact hj (by simp [q])⟩ hw
/-! ### comprehensions and loops, as they are used -/
theorem lc_inv {ws : WA} {wg : En → PyData → (En → Prop) → Prop} {wt : WT} {we' : WE} {vs : List Nat} {en : En} {P : List PyData → Nat → Prop} (ds : List PyData) (n : Nat) (hw : ∀ R : List PyData → Nat → Prop, R ds n → ws en R) (I : Nat → List PyData → Nat → Prop) (i0 : I 0 [] n)
    (hs : ∀ (k : Nat) (d : PyData) (acc : List PyData) (n1 : Nat), ds[k]? = some d → I k acc n1 → wg (wipeE ⟨en.s, n1⟩ vs) d fun en2 => wt en2 fun b n2 => if b = true then we' ⟨en2.s, n2⟩ fun r n3 => acc.length < 100000 ∧ I (k + 1) (acc ++ [r]) n3 else I (k + 1) acc n2)
    (hp : ∀ acc n1, I ds.length acc n1 → P acc n1) : wLc ws wg wt we' vs en P := hw _ ⟨I, i0, hs, hp⟩
/-- the element is a function of the item -/
theorem lc_map {ws : WA} {wg : En → PyData → (En → Prop) → Prop} {we' : WE} {vs : List Nat} {en : En} {P : List PyData → Nat → Prop} (ds : List PyData) (n : Nat) (hw : ∀ R : List PyData → Nat → Prop, R ds n → ws en R) (g : PyData → PyData) (hl : ds.length ≤ 100000)
    (hs : ∀ d ∈ ds, ∀ (n1 : Nat) (Q : PyData → Nat → Prop), Q (g d) n1 → wg (wipeE ⟨en.s, n1⟩ vs) d fun en2 => we' ⟨en2.s, en2.n⟩ Q) (hp : P (ds.map g) n) : wLc ws wg wYes we' vs en P := by
  refine lc_inv ds n hw (fun k acc n1 => acc = (ds.take k).map g ∧ n1 = n ∧ k ≤ ds.length) ⟨by simp, rfl, Nat.zero_le _⟩ (fun k d acc n1 hk ⟨ha, hn, hle⟩ => ?_) fun acc n1 ⟨ha, hn, _⟩ => ?_
  · subst hn
    have hm : d ∈ ds := List.mem_of_getElem? hk
    have hkl : k < ds.length := (List.getElem?_eq_some_iff.mp hk).1
    have tk : ds.take (k + 1) = ds.take k ++ [d] := by rw [List.take_add_one, hk]; rfl
    have hal : acc.length < 100000 := by
      rw [ha, List.length_map, List.length_take]
      omega
    have key := hs d hm n1 (fun r n3 => acc.length < 100000 ∧ acc ++ [r] = (ds.take (k + 1)).map g ∧ n3 = n1 ∧ k + 1 ≤ ds.length) ⟨hal, by rw [tk, List.map_append, ← ha]; rfl, rfl, hkl⟩
    simpa using key
  · subst hn
    rw [ha, List.take_length]
    exact hp
theorem for_inv {ws : WA} {wg : En → PyData → (En → Prop) → Prop} {wb : WS} {en : En} {P : DEn} (ds : List PyData) (n : Nat) (hw : ∀ R : List PyData → Nat → Prop, R ds n → ws en R) (I : Nat → En → Prop) (i0 : I 0 ⟨en.s, n⟩)
    (hs : ∀ (k : Nat) (d : PyData) (en' : En), ds[k]? = some d → I k en' → wg en' d fun en2 => wb { nx := I (k + 1), ct := I (k + 1), bk := P.nx, rt := P.rt, xx := P.xx } en2)
    (hp : ∀ en', I ds.length en' → P.nx en') : wFor ws wg wb P en := hw _ ⟨I, i0, hs, hp⟩
theorem while_inv {wt : WT} {wb : WS} {P : DEn} {en : En} (I : Nat → En → Prop) (m : Nat) (i0 : I m en)
    (hs : ∀ (m : Nat) (en' : En), I m en' → wt en' fun b n => if b = true then wb { nx := fun e2 => ∃ m', m' < m ∧ I m' e2, ct := fun e2 => ∃ m', m' < m ∧ I m' e2, bk := P.nx, rt := P.rt, xx := P.xx } ⟨en'.s, n⟩ else P.nx ⟨en'.s, n⟩) : wWhile wt wb P en := ⟨I, ⟨m, i0⟩, hs⟩
/-! ### promises by functions -/
@[simp] def sF1 (g : PyData → PyData) : PSp := fun ds Q => ∃ d, ds = [d] ∧ Q (g d)
@[simp] def sC1 (c : PyData → Prop) (g : PyData → PyData) : PSp := fun ds Q => ∃ d, ds = [d] ∧ c d ∧ Q (g d)
@[simp] def sF2 (g : PyData → PyData → PyData) : PSp := fun ds Q => ∃ d e, ds = [d, e] ∧ Q (g d e)
@[simp] def sC2 (c : PyData → PyData → Prop) (g : PyData → PyData → PyData) : PSp := fun ds Q => ∃ d e, ds = [d, e] ∧ c d e ∧ Q (g d e)
end

/-! ### data compared -/
@[simp] theorem okD_int (i : Int) : okD (.int i) = true := rfl
@[simp] theorem okD_none : okD .none = true := rfl
@[simp] theorem okD_bool (b : Bool) : okD (.bool b) = true := rfl
@[simp] theorem eqv_ii (i j : Int) : PyData.eqv (.int i) (.int j) = decide (i = j) := by
  simp only [PyData.eqv]
  by_cases h : i = j
  · subst h; simp
  · rw [decide_eq_false h]; exact beq_eq_false_iff_ne.mpr h
@[simp] theorem eqv_bb (a b : Bool) : PyData.eqv (.bool a) (.bool b) = (a == b) := by simp [PyData.eqv]
@[simp] theorem eqv_ss (a b : Str) : PyData.eqv (.str a) (.str b) = (a == b) := by simp [PyData.eqv]
theorem okD_str (x : Str) : okD (.str x) = (PyData.canLay0 (.str x)) := by simp [okD, flatD, SeqAt.shaped, PyData.depth]
@[simp] theorem eqv_none (d : PyData) : PyData.eqv d .none = noneD d := by
  cases d <;> simp [PyData.eqv, noneD]
@[simp] theorem shaped_int (i : Int) : SeqAt.shaped (.int i) = true := rfl
@[simp] theorem wipeE_nil (en : En) : wipeE en [] = en := rfl
@[simp] theorem wipeE_cons (en : En) (v : Nat) (vs : List Nat) : wipeE en (v :: vs) = ⟨(wipeE en vs).s.set v .no, en.n⟩ := rfl
theorem isSeq_of {d : PyData} {xs : List PyData} (h : seqD d = some xs) : isSeq d = true := by cases d <;> first | rfl | cases h
theorem isSeq_no {d : PyData} (h : seqD d = none) : isSeq d = false := by cases d <;> first | rfl | cases h
theorem bools_of {ds : List PyData} {g : PyData → Bool} {C : List Bool → Prop} (h : C (ds.map g)) : ∃ bs : List Bool, ds.map (fun x => PyData.bool (g x)) = bs.map PyData.bool ∧ C bs := ⟨ds.map g, by rw [List.map_map]; rfl, h⟩
theorem all_map_id {ds : List PyData} {g : PyData → Bool} : (ds.map g).all id = ds.all g := by rw [List.all_map]; rfl
theorem any_map_id {ds : List PyData} {g : PyData → Bool} : (ds.map g).any id = ds.any g := by rw [List.any_map]; rfl

/-! ### items and slices at written places -/
theorem atI_nat {α : Type} (xs : List α) (i : Nat) : L2.atI xs (i : Int) = xs[i]? := by
  unfold L2.atI ixN
  rw [if_pos (Int.natCast_nonneg i)]
  by_cases h : i < xs.length
  · rw [if_pos (by omega)]
    show xs[(i : Int).toNat]? = xs[i]?
    rw [Int.toNat_natCast]
  · rw [if_neg (by omega), List.getElem?_eq_none (by omega)]
    rfl
@[simp] theorem atI_0 {α : Type} (xs : List α) : L2.atI xs 0 = xs[0]? := atI_nat xs 0
@[simp] theorem atI_1 {α : Type} (xs : List α) : L2.atI xs 1 = xs[1]? := atI_nat xs 1
@[simp] theorem atI_2 {α : Type} (xs : List α) : L2.atI xs 2 = xs[2]? := atI_nat xs 2
@[simp] theorem atI_3 {α : Type} (xs : List α) : L2.atI xs 3 = xs[3]? := atI_nat xs 3
@[simp] theorem atI_4 {α : Type} (xs : List α) : L2.atI xs 4 = xs[4]? := atI_nat xs 4
@[simp] theorem atI_5 {α : Type} (xs : List α) : L2.atI xs 5 = xs[5]? := atI_nat xs 5
theorem atI_pos {α : Type} (xs : List α) {i : Int} (h : 0 ≤ i) : L2.atI xs i = xs[i.toNat]? := by
  have e : i = ((i.toNat : Nat) : Int) := by omega
  have := atI_nat xs i.toNat
  rw [← e] at this
  exact this
@[simp] theorem atI_m1 {α : Type} (xs : List α) : L2.atI xs (-1) = xs.getLast? := by
  unfold L2.atI ixN
  rw [if_neg (by decide)]
  cases xs with
  | nil => rfl
  | cons x xs =>
    rw [if_pos (by simp only [List.length_cons]; omega)]
    have e : ((-1 : Int) + ((x :: xs).length : Nat)).toNat = (x :: xs).length - 1 := by simp only [List.length_cons]; omega
    show (x :: xs)[((-1 : Int) + ((x :: xs).length : Nat)).toNat]? = _
    rw [e, List.getLast?_eq_getElem?]
theorem sIx_nat (n d i : Nat) : HT.sIx n d (some (i : Int)) = min i n := by
  unfold HT.sIx
  simp only
  split
  · omega
  · omega
@[simp] theorem cutD_all {α : Type} (xs : List α) : cutD xs none none = xs := by simp [cutD, HT.sIx]
theorem cutD_upto {α : Type} (xs : List α) (i : Nat) : cutD xs none (some (i : Int)) = xs.take i := by
  unfold cutD
  rw [sIx_nat]
  simp [HT.sIx]
theorem cutD_from {α : Type} (xs : List α) (i : Nat) : cutD xs (some (i : Int)) none = xs.drop i := by
  unfold cutD
  rw [sIx_nat]
  simp only [HT.sIx]
  by_cases h : i ≤ xs.length
  · rw [Nat.min_eq_left h, List.take_of_length_le (by rw [List.length_drop]; exact Nat.le_refl _)]
  · rw [Nat.min_eq_right (by omega), List.drop_of_length_le (Nat.le_refl _), List.drop_of_length_le (by omega)]
    simp
@[simp] theorem cutD_u3 {α : Type} (xs : List α) : cutD xs none (some 3) = xs.take 3 := cutD_upto xs 3
@[simp] theorem cutD_u5 {α : Type} (xs : List α) : cutD xs none (some 5) = xs.take 5 := cutD_upto xs 5
@[simp] theorem cutD_u2 {α : Type} (xs : List α) : cutD xs none (some 2) = xs.take 2 := cutD_upto xs 2
@[simp] theorem cutD_f1 {α : Type} (xs : List α) : cutD xs (some 1) none = xs.drop 1 := cutD_from xs 1
@[simp] theorem cutD_f2 {α : Type} (xs : List α) : cutD xs (some 2) none = xs.drop 2 := cutD_from xs 2
@[simp] theorem cutD_f3 {α : Type} (xs : List α) : cutD xs (some 3) none = xs.drop 3 := cutD_from xs 3
/-! ### data of ints, truth values, None alone -/
mutual
def plain : PyData → Bool
  | .none => true
  | .bool _ => true
  | .int _ => true
  | .str _ => false
  | .list xs => plains xs
  | .tuple xs => plains xs
  | .dict _ => false
def plains : List PyData → Bool
  | [] => true
  | x :: xs => plain x && plains xs
end
mutual
theorem plain_flat : ∀ {d : PyData}, plain d = true → flatD d = true ∧ d.canLay0 = true
  | .none, _ => ⟨rfl, rfl⟩
  | .bool _, _ => ⟨rfl, rfl⟩
  | .int _, _ => ⟨rfl, rfl⟩
  | .str _, h => by simp [plain] at h
  | .list xs, h => by
    have := plains_flat (xs := xs) (by simpa [plain] using h)
    exact ⟨by simpa [flatD] using this.1, by simpa [PyData.canLay0] using this.2⟩
  | .tuple xs, h => by
    have := plains_flat (xs := xs) (by simpa [plain] using h)
    exact ⟨by simpa [flatD] using this.1, by simpa [PyData.canLay0] using this.2⟩
  | .dict _, h => by simp [plain] at h
theorem plains_flat : ∀ {xs : List PyData}, plains xs = true → flatDs xs = true ∧ PyData.canLayAll0 xs = true
  | [], _ => ⟨rfl, rfl⟩
  | x :: xs, h => by
    rw [plains, Bool.and_eq_true] at h
    have h1 := plain_flat h.1
    have h2 := plains_flat h.2
    exact ⟨by rw [flatDs, h1.1, h2.1]; rfl, by rw [PyData.canLayAll0, h1.2, h2.2]; rfl⟩
end
theorem okD_plain {d : PyData} (h : plain d = true) (hd : d.depth ≤ 64) : okD d = true := by
  have := plain_flat h
  unfold okD SeqAt.shaped
  rw [this.1, this.2, decide_eq_true hd]
  rfl
theorem plains_all {xs : List PyData} (h : ∀ d ∈ xs, plain d = true) : plains xs = true := by
  induction xs with
  | nil => rfl
  | cons x xs ih => rw [plains, h x (by simp), ih fun d hd => h d (by simp [hd])]; rfl
theorem depthAll_le {xs : List PyData} {n : Nat} (h : ∀ d ∈ xs, d.depth ≤ n) : PyData.depthAll xs ≤ n := by
  induction xs with
  | nil => simp [PyData.depthAll]
  | cons x xs ih =>
    have h1 := h x (by simp)
    have h2 := ih fun d hd => h d (by simp [hd])
    simp only [PyData.depthAll]
    omega
theorem okD_list {xs : List PyData} {n : Nat} (h : ∀ d ∈ xs, plain d = true ∧ d.depth ≤ n) (hn : n ≤ 63) : okD (.list xs) = true := by
  refine okD_plain (by simp only [plain]; exact plains_all fun d hd => (h d hd).1) ?_
  have := depthAll_le fun d hd => (h d hd).2
  simp only [PyData.depth]
  omega
theorem okLt_of {d e : PyData} (h1 : plain d = true) (h2 : plain e = true) (h3 : alike d e = true) (h4 : d ≠ .none) (h5 : d.depth ≤ 64) : okLt d e = true := by
  unfold okLt
  rw [(plain_flat h1).1, (plain_flat h2).1, h3, decide_eq_true h5]
  cases d <;> first | rfl | exact absurd rfl h4
end DD
/-! The Deep layer, 9: dicts. -/
namespace DD
open PySem PySem.Spec PyProof.Rows L2
open Evl (Ex)
/-- a key that is a whole number or a text -/
def keyA : PyData → Bool
  | .int _ => true
  | .str _ => true
  | _ => false
def pairK (p : PyData × PyData) : PyData := .tuple [p.1, p.2]
theorem rpK_items {F F' : Hp} (e : Ex F F') : ∀ {kvs : List (Key × V)} {es : List (PyData × PyData)} {ts : List Addr}, RpK F kvs es → Paired (fun (t : Addr) (q : Key × V) => F' t = some (.tup [kV q.1, q.2])) ts kvs → RpA F' (ts.map V.ref) (es.map pairK)
  | _, _, _, .nil, .nil => .nil
  | _, _, _, .cons (k := k) h r, .cons h1 r1 => by
    refine .cons (.tup h1 (.cons ?_ (.cons (h.mono e) .nil))) (rpK_items e r r1)
    cases k with
    | inl i => exact .int i
    | inr x => exact .str x
theorem paired_mem {α β : Type} {F : α → β → Prop} : ∀ {xs : List α} {ys : List β}, Paired F xs ys → ∀ x ∈ xs, ∃ y, F x y
  | _, _, .nil, x, h => by cases h
  | _, _, .cons r t, x, h => by
    rcases List.mem_cons.mp h with e | h
    · rw [e]; exact ⟨_, r⟩
    · exact paired_mem t x h
theorem paired_mono {α β : Type} {F G : α → β → Prop} : ∀ {xs : List α} {ys : List β}, Paired F xs ys → (∀ x ∈ xs, ∀ y, F x y → G x y) → Paired G xs ys
  | _, _, .nil, _ => .nil
  | _, _, .cons r t, h => .cons (h _ (by simp) _ r) (paired_mono t fun x hx y q => h x (by simp [hx]) y q)
section
variable {z : Zn} {X : Cx} {e : Expr} {t : TE} {we : WE} {p apos cpos pos : Pos}
@[simp] def wItems (w : WE) : WA := fun en P => w en fun d n => ∃ es, d = .dict es ∧ (es.all fun q => keyA q.1) = true ∧ P (es.map pairK) n
/-- list(x.items()), x a locked dict -/
def tItF (te : TE) : TE := fun σ H Q => te σ H fun x H1 => ∃ (a : Addr) (o : Obj) (kvs : List (Key × V)), x = .ref a ∧ H1 a = some (.frz o (.dK kvs)) ∧ ∀ (H' : Hp) (l : Addr) (ts : List Addr), (∀ b u, H1 b = some u → H' b = some u) → H1 l = none → (∀ t ∈ ts, H1 t = none) → l ∉ ts → H' l = some (.lst (ts.map V.ref)) →
  Paired (fun (t : Addr) (q : Key × V) => H' t = some (.tup [kV q.1, q.2])) ts kvs → Q (.ref l) H'
theorem pe_itF (hc : X.calm = true) (he : PE X e t) (hg : Gl X "list") (hm : X.mg "list" = none) (hv : bootBuiltins "list" = some (.type "list")) (hbase : attributeBase e "items" X.env (eval e X.env) = eval e X.env := by rfl) (hline : (apos.endLine == cpos.line) = true := by rfl)
    (hs : starEach [.Call (.Attribute e "items" apos) [] [] cpos] X.env = (false, eval (.Call (.Attribute e "items" apos) [] [] cpos) X.env) :: starEach [] X.env := by rfl) : PE X (.Call (.Name "list" p) [.Call (.Attribute e "items" apos) [] [] cpos] [] pos) (tItF t) := ⟨fun pins s σ H Q I hq => by
  refine wpAny_Call_Name_kw (ld_blt I hg hm hv (PyProof.Rows.callWith_type1 ?_ hs rfl))
  rw [hs]; show wpAny _ _ (spliced ((false, eval (.Call (.Attribute e "items" apos) [] [] cpos) X.env) :: backTo pos (starEach [] X.env))) _ _ s
  refine Calls.spliced_cons (wpAny_Call_method (T := "dict") (id := "dict.items") hbase rfl hline F.plainAttrs_dict F.slot_dict_items F.type_dict_items (thn (he.run pins s σ H _ I hq) fun u s1 ⟨x, H1, I1, rx, a, o, kvs, ex, ha, q⟩ => ?_))
  cases ex; cases (show u = Value.ref a from rx)
  obtain ⟨_, zz, nz, vs, kv, dof⟩ := (show ObjOk X.prog X.w H1 s1.heap a (.frz o (.dK kvs)) from I1.hok a _ ha)
  obtain ⟨ep, atD⟩ := dof.dictAt; have ln : kvs.length = vs.length := Paired.length kv
  have J2 : Inv X pins σ H1 { s1 with heap := s1.heap.push { cls := .type "dict_items", data := .fields #[.ref a] } } := I1.kept (t' := s1.toks) fun _ _ y => Heap.get?_push_of_some _ y
  refine ⟨dof.typeIs, dof.mapOf.noDict, ?_⟩; show wpAny _ _ (callWith cpos (.builtin "dict.items") [.ref a] [] []) _ X.xe s1
  refine method_meetsIn F.slot_dict_items F.entry_dict_items rfl (PySem.evalArgs_none ⟨rfl, dof.typeIs, F.args_dict_items_1 _, _, meets_dict_items (mixKind X.prog X.w) a nz, ⟨vs, dof⟩, Calls.spliced_nil ?_⟩)
  refine PySem.W.kdx_call (knd := mixKind X.prog X.w) (kvs := vs) (ep := ep) (I1.ok.hd hc) ⟨_, Heap.get?_push_size _ rfl, rfl, rfl⟩ (atD.push _) (by omega) fun h' tk acc c as y1 y2 y3 y4 y5 => ?_
  obtain ⟨H', k1, k2, k3, k4, k5, k6, J⟩ := LiI.items_laid (tk := tk) J2 zz kv y1 y2 y3 y4 y5; exact ⟨V.ref _, H', J, rfl, q H' _ as k1 k2 k3 k4 k5 k6⟩⟩
theorem jl_items (bi : ∀ x ∈ BI, X.mg x = none) (h : JE z X e t we) (hg : Gl X "list" := by rfl) (hc : X.calm = true := by rfl) (hbase : attributeBase e "items" X.env (eval e X.env) = eval e X.env := by rfl) (hline : (apos.endLine == cpos.line) = true := by rfl)
    (hs : starEach [.Call (.Attribute e "items" apos) [] [] cpos] X.env = (false, eval (.Call (.Attribute e "items" apos) [] [] cpos) X.env) :: starEach [] X.env := by rfl) :
    JL z X (.Call (.Name "list" p) [.Call (.Attribute e "items" apos) [] [] cpos] [] pos) (tItF t) (wItems we) where
  pe := pe_itF hc h.pe hg (bi _ (by decide)) (by decide +kernel) hbase hline hs
  de := fun B σ H F en s P Q hw k => by
    refine h.de B σ H F en s _ _ hw fun v H1 F1 d n1 g1 s1 r1 q1 => ?_
    obtain ⟨es, rfl, hk, q⟩ := q1
    cases r1 with
    | @dT a o kvs _ ha hne r =>
      cases r with
      | nil => exact absurd rfl hne
      | cons h1 r1 => simp [keyA] at hk
    | @dK a o kvs _ ha r =>
      refine ⟨a, o, kvs, rfl, g1.sub _ _ ha, fun H' l ts hx hl ht hlt hlist hpair => ?_⟩
      have tsF : ∀ b ∈ ts, F1 b = none := fun b hb => none_of_sub g1.sub (ht b hb)
      have e1 : Ex F1 (fun b => if b ∈ ts then H' b else F1 b) := fun b o hb => by
        show (if b ∈ ts then H' b else F1 b) = some o
        rw [if_neg (fun q => by rw [tsF b q] at hb; cases hb)]
        exact hb
      have sub : Ex (fun b => if b ∈ ts then H' b else F1 b) H' := fun b o hb => by
        have hb : (if b ∈ ts then H' b else F1 b) = some o := hb
        by_cases q : b ∈ ts
        · rw [if_pos q] at hb; exact hb
        · rw [if_neg q] at hb; exact hx b o (g1.sub b o hb)
      have g2 : Grow z F1 H1 (fun b => if b ∈ ts then H' b else F1 b) H' := {
        keep := fun b o _ hb => hx b o hb
        dom := fun b hb => by
          cases q : H1 b with
          | none => rfl
          | some o => rw [hx b o q] at hb; cases hb
        ext := e1
        sub := sub
        new := fun b h1 h2 => by
          show (if b ∈ ts then H' b else F1 b) = none ∨ ∃ xs, (if b ∈ ts then H' b else F1 b) = some (.tup xs)
          rw [if_neg (fun q => h1 (ht b q))]
          exact .inl h2 }
      refine k l _ H' _ _ n1 (g1.trans g2) (s1.ex hx) (g1.dom l hl) (by show (if l ∈ ts then H' l else F1 l) = none; rw [if_neg hlt]; exact none_of_sub g1.sub hl) hlist (rpK_items e1 r (paired_mono hpair fun b hb y q => ?_)) q
      show (if b ∈ ts then H' b else F1 b) = _
      rw [if_pos hb]
      exact q
/-- dict([.. for key in x]), x an empty dict -/
@[simp] def wD0 (i : Nat) : WE := fun en P => en.s[i]? = some (.val (.dict [])) ∧ P (.dict []) en.n
theorem je_dcopy {x : Str} {elt : Expr} {key : Str} {kp p0 cp : Pos} {scope : Scope} {te : TE} (i j : Nat) (own : List (Str × Nat)) (hN : X.N.Nodup) (bi : ∀ x ∈ BI, X.mg x = none) (hx : X.N[i]? = some x) (ok : blkC X.N X.env.scope scope own = true)
    (hg : ∀ (s : Shared) (H : Hp) (C : Addr) (cl : List (Str × Addr)) (fp : List Addr), PG (X.blk s H scope (compEnvC scope cl C X.env) fp) (.Name key kp) (gName j))
    (he : ∀ (s : Shared) (H : Hp) (C : Addr) (cl : List (Str × Addr)) (fp : List Addr), PE (X.blk s H scope (compEnvC scope cl C X.env) fp) elt te)
    (hv : Vis X.env.scope x := by first | exact Or.inl rfl | exact Or.inr (Or.inl rfl) | exact Or.inr (Or.inr rfl)) (hd : (x == ("__debug__" : Str)) = false := by decide) (hcd : (x == ("__classdict__" : Str)) = false := by decide)
    (hc : X.calm = true := by rfl) (hgl : Gl X "dict" := by rfl)
    (hs : ∀ v, foldedSetIterable (.Name x p0) X.env v = pure v := by intro _; rfl)
    (hst : starEach [.ListComp elt [⟨.Name key kp, .Name x p0, [], 0⟩] scope cp] X.env = (false, eval (.ListComp elt [⟨.Name key kp, .Name x p0, [], 0⟩] scope cp) X.env) :: starEach [] X.env := by rfl) (hpl : (backTo pos (starEach [] X.env)).any (·.1) = false := by rfl) :
    JE z X (.Call (.Name "dict" p) [.ListComp elt [⟨.Name key kp, .Name x p0, [], 0⟩] scope cp] [] pos) (tLk (tCB (fun xs H Q => ∃ (a : Addr) (ps : List Addr) (kvs : List (Key × V)), xs = [.ref a] ∧ SqL X.K H a (ps.map V.ref) ∧ Paired (fun p kv => SqT X.K H p [kV kv.1, kv.2]) ps kvs ∧
      ∀ p, H p = none → Q (.ref p) (L2.upd H p (.dK (mergeK [] kvs)))) (tCons (tLc (iKeys (tVar i)) (gName j) tYes te (own.map (·.2))) tNil))) (wD0 i) where
  pe := pe_lk (pe_callTy (call_dictP hc) hgl (bi _ (by decide)) (by decide +kernel) (pa_cons (pe_lc hc hN (pi_keys (pe_var hx hv hd hcd)) (blkOk_by ok) hg (fun _ _ _ _ _ => pts_nil) he hs) pa_nil hst) (by decide) (by decide) hst hpl)
  de := fun B σ H F en s P Q hw k => by
    obtain ⟨h1, q⟩ := hw
    obtain ⟨o, e1, v, rfl, r⟩ := s.slot i _ h1
    cases r with
    | @dT a o kvs _ ha hne r => cases r; exact absurd rfl hne
    | @dK a o kvs _ ha r =>
      cases r
      have hHa : H a = some (.frz o (.dK [])) := s.sub _ _ ha
      refine ⟨.ref a, e1, a, o, rfl, .inl ⟨[], hHa, fun D hHD => ?_⟩⟩
      have hDa : D ≠ a := fun e => by rw [e, hHa] at hHD; cases hHD
      refine ⟨fun i m H' => i = 0 ∧ H' = L2.upd H D (.lst []), ⟨0, rfl, rfl⟩, ?_⟩
      rintro i' m H' ⟨rfl, rfl⟩
      refine .inl ⟨⟨by rw [upd_ne (Ne.symm hDa)]; exact hHa, Nat.le_refl _⟩, ?_⟩
      refine ⟨D, [], [], rfl, SqL.of upd_same, .nil, fun l hl => ⟨l, _, upd_same, trivial, fun od => ?_⟩⟩
      have g1 : Grow z F H F (L2.upd H D (.lst [])) := Grow.fresh s.sub hHD
      rw [upd_upd]
      exact k _ _ _ _ en.n (g1.trans (Grow.laid g1.sub hl)) ((s.stm.new hHD).new hl) (.dK upd_same .nil) q
end
end DD
/-! The Deep layer, 10: comprehensions whose items are only known by a property. -/
namespace DD
open PySem PySem.Spec PyProof.Rows L2
/-- what a comprehension does with the items ds -/
def LcIn (wg : En → PyData → (En → Prop) → Prop) (wt : WT) (we' : WE) (vs : List Nat) (en : En) (P : List PyData → Nat → Prop) (ds : List PyData) (n : Nat) : Prop :=
  ∃ I : Nat → List PyData → Nat → Prop, I 0 [] n ∧ (∀ (k : Nat) (d : PyData) (acc : List PyData) (n1 : Nat), ds[k]? = some d → I k acc n1 → wg (wipeE ⟨en.s, n1⟩ vs) d fun en2 => wt en2 fun b n2 => if b = true then we' ⟨en2.s, n2⟩ fun r n3 => acc.length < 100000 ∧ I (k + 1) (acc ++ [r]) n3 else I (k + 1) acc n2) ∧ ∀ acc n1, I ds.length acc n1 → P acc n1
theorem wLc_def {ws : WA} {wg : En → PyData → (En → Prop) → Prop} {wt : WT} {we' : WE} {vs : List Nat} {en : En} {P : List PyData → Nat → Prop} : wLc ws wg wt we' vs en P = ws en (LcIn wg wt we' vs en P) := rfl
/-- what a for-loop does with the items ds -/
def ForIn (wg : En → PyData → (En → Prop) → Prop) (wb : WS) (P : DEn) (en : En) (ds : List PyData) (n : Nat) : Prop :=
  ∃ I : Nat → En → Prop, I 0 ⟨en.s, n⟩ ∧ (∀ (k : Nat) (d : PyData) (en' : En), ds[k]? = some d → I k en' → wg en' d fun en2 => wb { nx := I (k + 1), ct := I (k + 1), bk := P.nx, rt := P.rt, xx := P.xx } en2) ∧ ∀ en', I ds.length en' → P.nx en'
theorem wFor_def {ws : WA} {wg : En → PyData → (En → Prop) → Prop} {wb : WS} {en : En} {P : DEn} : wFor ws wg wb P en = ws en (ForIn wg wb P en) := rfl
/-- every item has p; each draws at most c -/
theorem lci_pred {wg : En → PyData → (En → Prop) → Prop} {we' : WE} {vs : List Nat} {en : En} {P : List PyData → Nat → Prop} {ds : List PyData} {n : Nat} (p : PyData → Prop) (c : Nat) (hl : ds.length ≤ 100000)
    (hs : ∀ (k : Nat) (d : PyData) (n1 : Nat) (Q : PyData → Nat → Prop), k < ds.length → ds[k]? = some d → n1 ≤ n + k * c → (∀ r n3, p r → n3 ≤ n1 + c → Q r n3) → wg (wipeE ⟨en.s, n1⟩ vs) d fun en2 => we' ⟨en2.s, en2.n⟩ Q)
    (hp : ∀ rs n', rs.length = ds.length → (∀ r ∈ rs, p r) → n' ≤ n + ds.length * c → P rs n') : LcIn wg wYes we' vs en P ds n := by
  refine ⟨fun k acc n1 => acc.length = k ∧ k ≤ ds.length ∧ (∀ r ∈ acc, p r) ∧ n1 ≤ n + k * c, ⟨rfl, Nat.zero_le _, by simp, by omega⟩, fun k d acc n1 hk ⟨h1, h2, h3, h4⟩ => ?_, fun acc n1 ⟨h1, _, h3, h4⟩ => hp acc n1 h1 h3 h4⟩
  have hkl : k < ds.length := (List.getElem?_eq_some_iff.mp hk).1
  have key := hs k d n1 (fun r n3 => acc.length < 100000 ∧ ((acc ++ [r]).length = k + 1 ∧ k + 1 ≤ ds.length ∧ (∀ r' ∈ acc ++ [r], p r') ∧ n3 ≤ n + (k + 1) * c)) hkl hk h4 fun r n3 hr hn => ⟨by omega, by simp [h1], hkl, fun r' hr' => by
    rcases List.mem_append.mp hr' with h | h
    · exact h3 r' h
    · rw [List.mem_singleton.mp h]; exact hr, by rw [Nat.add_mul]; omega⟩
  simpa using key
/-- with an if: every item that stays has p -/
theorem lci_predF {wg : En → PyData → (En → Prop) → Prop} {wt : WT} {we' : WE} {vs : List Nat} {en : En} {P : List PyData → Nat → Prop} {ds : List PyData} {n : Nat} (p : PyData → Prop) (c : Nat) (hl : ds.length ≤ 100000)
    (hs : ∀ (k : Nat) (d : PyData) (n1 : Nat) (Q : PyData → Nat → Prop) (R : Nat → Prop), k < ds.length → ds[k]? = some d → n1 ≤ n + k * c → (∀ r n3, p r → n3 ≤ n1 + c → Q r n3) → (∀ n3, n3 ≤ n1 + c → R n3) → wg (wipeE ⟨en.s, n1⟩ vs) d fun en2 => wt en2 fun b n2 => if b = true then we' ⟨en2.s, n2⟩ Q else R n2)
    (hp : ∀ rs n', rs.length ≤ ds.length → (∀ r ∈ rs, p r) → n' ≤ n + ds.length * c → P rs n') : LcIn wg wt we' vs en P ds n := by
  refine ⟨fun k acc n1 => acc.length ≤ k ∧ k ≤ ds.length ∧ (∀ r ∈ acc, p r) ∧ n1 ≤ n + k * c, ⟨by simp, Nat.zero_le _, by simp, by omega⟩, fun k d acc n1 hk ⟨h1, h2, h3, h4⟩ => ?_, fun acc n1 ⟨h1, _, h3, h4⟩ => hp acc n1 h1 h3 h4⟩
  have hkl : k < ds.length := (List.getElem?_eq_some_iff.mp hk).1
  refine hs k d n1 _ _ hkl hk h4 (fun r n3 hr hn => ⟨by omega, by simp; omega, hkl, fun r' hr' => ?_, by rw [Nat.add_mul]; omega⟩) fun n3 hn => ⟨by omega, hkl, h3, by rw [Nat.add_mul]; omega⟩
  rcases List.mem_append.mp hr' with h | h
  · exact h3 r' h
  · rw [List.mem_singleton.mp h]; exact hr
theorem lci_map {wg : En → PyData → (En → Prop) → Prop} {we' : WE} {vs : List Nat} {en : En} {P : List PyData → Nat → Prop} {ds : List PyData} {n : Nat} (g : PyData → PyData) (hl : ds.length ≤ 100000)
    (hs : ∀ d ∈ ds, ∀ (n1 : Nat) (Q : PyData → Nat → Prop), Q (g d) n1 → wg (wipeE ⟨en.s, n1⟩ vs) d fun en2 => we' ⟨en2.s, en2.n⟩ Q) (hp : P (ds.map g) n) : LcIn wg wYes we' vs en P ds n := lc_map (ws := fun _ R => R ds n) ds n (fun R h => h) g hl hs hp
/-- with an if -/
theorem lci_filter {wg : En → PyData → (En → Prop) → Prop} {wt : WT} {we' : WE} {vs : List Nat} {en : En} {P : List PyData → Nat → Prop} {ds : List PyData} {n : Nat} (t : PyData → Bool) (g : PyData → PyData) (hl : ds.length ≤ 100000)
    (hs : ∀ d ∈ ds, ∀ (n1 : Nat) (Q : PyData → Nat → Prop) (R : Nat → Prop), (t d = true → Q (g d) n1) → (t d = false → R n1) → wg (wipeE ⟨en.s, n1⟩ vs) d fun en2 => wt en2 fun b n2 => if b = true then we' ⟨en2.s, n2⟩ Q else R n2) (hp : P ((ds.filter t).map g) n) : LcIn wg wt we' vs en P ds n := by
  refine ⟨fun k acc n1 => acc = ((ds.take k).filter t).map g ∧ n1 = n ∧ k ≤ ds.length, ⟨by simp, rfl, Nat.zero_le _⟩, fun k d acc n1 hk ⟨ha, hn, hle⟩ => ?_, fun acc n1 ⟨ha, hn, _⟩ => ?_⟩
  · subst hn
    have hm : d ∈ ds := List.mem_of_getElem? hk
    have hkl : k < ds.length := (List.getElem?_eq_some_iff.mp hk).1
    have tk : ds.take (k + 1) = ds.take k ++ [d] := by rw [List.take_add_one, hk]; rfl
    have hal : acc.length < 100000 := by
      rw [ha, List.length_map]
      have := List.length_filter_le t (ds.take k)
      rw [List.length_take] at this
      omega
    refine hs d hm n1 _ _ (fun ht => ⟨hal, ?_, rfl, hkl⟩) (fun ht => ⟨?_, rfl, hkl⟩)
    · rw [tk, List.filter_append, List.map_append, ← ha]; simp [ht]
    · rw [tk, List.filter_append, List.map_append, ← ha]; simp [ht]
  · subst hn
    rw [ha, List.take_length]
    exact hp
@[simp] theorem rgD_size (i : Int) (m : Nat) : (rgD i m).length = m := rgD_len i m
end DD
/-! The Deep layer, 11: dicts of a def's own, what is stored and found in dicts. -/
namespace DD
open PySem PySem.Spec PyProof.Rows L2
open Evl (Ex)
/-! ### dicts as data -/
def keyT : PyData → Bool
  | .tuple ks => ks.all keyA
  | _ => false
open Classical in
noncomputable def putE (es : List (PyData × PyData)) (k d : PyData) : List (PyData × PyData) := if (es.any fun p => decide (p.1 = k)) = true then es.map (fun p => if p.1 = k then (p.1, d) else p) else es ++ [(k, d)]
open Classical in
noncomputable def lookE (es : List (PyData × PyData)) (k : PyData) : Option PyData := (es.find? fun p => decide (p.1 = k)).map (·.2)
theorem putE_len (es : List (PyData × PyData)) (k d : PyData) : (putE es k d).length ≤ es.length + 1 := by
  unfold putE
  split
  · simp
  · simp
theorem putE_mem {es : List (PyData × PyData)} {k d : PyData} {p : PyData × PyData} (h : p ∈ putE es k d) : p = (k, d) ∨ p ∈ es := by
  unfold putE at h
  split at h
  · obtain ⟨q, hq, e⟩ := List.mem_map.mp h
    by_cases c : q.1 = k
    · rw [if_pos c] at e; exact .inl (by rw [← e, c])
    · rw [if_neg c] at e; exact .inr (e ▸ hq)
  · rcases List.mem_append.mp h with h | h
    · exact .inr h
    · exact .inl (List.mem_singleton.mp h)
theorem lookE_mem {es : List (PyData × PyData)} {k d : PyData} (h : lookE es k = some d) : (k, d) ∈ es := by
  unfold lookE at h
  cases e : es.find? fun p => @decide (p.1 = k) (Classical.propDecidable _) with
  | none => rw [e] at h; cases h
  | some p =>
    rw [e] at h
    cases h
    have h1 := List.find?_some e
    have h2 := List.mem_of_find?_eq_some e
    have h3 : p.1 = k := by simpa using h1
    rw [← h3]
    exact h2
theorem lookE_of {es : List (PyData × PyData)} {k : PyData} (h : k ∈ es.map (·.1)) : ∃ d, lookE es k = some d ∧ (k, d) ∈ es := by
  obtain ⟨p, hp, e⟩ := List.mem_map.mp h
  cases q : lookE es k with
  | some d => exact ⟨d, rfl, lookE_mem q⟩
  | none =>
    unfold lookE at q
    rw [Option.map_eq_none_iff, List.find?_eq_none] at q
    have := q p hp
    simp [e] at this
theorem lookE_nil (k : PyData) : lookE [] k = none := rfl
theorem lookE_pos {p : PyData × PyData} {r : List (PyData × PyData)} {k : PyData} (e : p.1 = k) : lookE (p :: r) k = some p.2 := by simp [lookE, List.find?_cons, e]
theorem lookE_neg {p : PyData × PyData} {r : List (PyData × PyData)} {k : PyData} (e : ¬ p.1 = k) : lookE (p :: r) k = lookE r k := by simp [lookE, List.find?_cons, e]
theorem keyD_inj {a b : Key} (e : keyD a = keyD b) : a = b := by
  cases a <;> cases b <;> simp [keyD] at e <;> rw [e]
theorem keyDs_inj : ∀ {a b : List Key}, a.map keyD = b.map keyD → a = b
  | [], [], _ => rfl
  | [], _ :: _, e => by simp at e
  | _ :: _, [], e => by simp at e
  | x :: xs, y :: ys, e => by
    rw [List.map_cons, List.map_cons] at e
    injection e with e1 e2
    rw [keyD_inj e1, keyDs_inj e2]
theorem keyA_of {d : PyData} (h : keyA d = true) : ∃ k : Key, d = keyD k := by
  cases d <;> first | exact ⟨.inl _, rfl⟩ | exact ⟨.inr _, rfl⟩ | cases h
theorem keyAs_of {ds : List PyData} (h : ds.all keyA = true) : ∃ ks : List Key, ds = ks.map keyD := by
  induction ds with
  | nil => exact ⟨[], rfl⟩
  | cons d ds ih =>
    rw [List.all_cons, Bool.and_eq_true] at h
    obtain ⟨k, rfl⟩ := keyA_of h.1
    obtain ⟨ks, rfl⟩ := ih h.2
    exact ⟨k :: ks, rfl⟩
theorem keyT_of {d : PyData} (h : keyT d = true) : ∃ ks : List Key, d = .tuple (ks.map keyD) := by
  cases d with
  | tuple ds => obtain ⟨ks, rfl⟩ := keyAs_of (by simpa [keyT] using h); exact ⟨ks, rfl⟩
  | _ => cases h
theorem keyA_D (k : Key) : keyA (keyD k) = true := by cases k <;> rfl
theorem keyT_D (ks : List Key) : keyT (.tuple (ks.map keyD)) = true := by simp [keyT, keyA_D]
theorem rp_key {F : Hp} {v : V} {k : Key} (r : Rp F v (keyD k)) : v = kV k := by
  cases k with
  | inl i => cases r; rfl
  | inr x => cases r; rfl
theorem rpA_keys {F : Hp} : ∀ {vs : List V} {ks : List Key}, RpA F vs (ks.map keyD) → vs = ks.map kV
  | [], [], _ => rfl
  | [], _ :: _, r => by cases r
  | _ :: _, [], r => by cases r
  | v :: vs, k :: ks, r => by
    cases r with
    | cons h r => rw [rp_key h, rpA_keys r]; rfl
theorem RpK.keys {F : Hp} : ∀ {kvs : List (Key × V)} {es : List (PyData × PyData)}, RpK F kvs es → es.map (·.1) = kvs.map fun p => keyD p.1
  | _, _, .nil => rfl
  | _, _, .cons h r => by rw [List.map_cons, List.map_cons, r.keys]
theorem RpT.keys {F : Hp} : ∀ {kvs : List (List Key × V)} {es : List (PyData × PyData)}, RpT F kvs es → es.map (·.1) = kvs.map fun p => .tuple (p.1.map keyD)
  | _, _, .nil => rfl
  | _, _, .cons h r => by rw [List.map_cons, List.map_cons, r.keys]
theorem RpK.length {F : Hp} {kvs : List (Key × V)} {es : List (PyData × PyData)} (r : RpK F kvs es) : kvs.length = es.length := by
  have := congrArg List.length r.keys
  simpa using this.symm
theorem RpT.length {F : Hp} {kvs : List (List Key × V)} {es : List (PyData × PyData)} (r : RpT F kvs es) : kvs.length = es.length := by
  have := congrArg List.length r.keys
  simpa using this.symm
theorem RpK.look {F : Hp} {k : Key} : ∀ {kvs : List (Key × V)} {es : List (PyData × PyData)}, RpK F kvs es → (valV kvs k = none ∧ lookE es (keyD k) = none) ∨ ∃ v d, valV kvs k = some v ∧ lookE es (keyD k) = some d ∧ Rp F v d
  | _, _, .nil => .inl ⟨rfl, rfl⟩
  | _, _, .cons (k := j) h r => by
    by_cases c : j = k
    · exact .inr ⟨_, _, valV_pos c, lookE_pos (by rw [c]), h⟩
    · rcases r.look (k := k) with ⟨a, b⟩ | ⟨v, d, a, b, q⟩
      · exact .inl ⟨(valV_neg (p := (j, _)) c).trans a, (lookE_neg (p := (keyD j, _)) fun e => c (keyD_inj e)).trans b⟩
      · exact .inr ⟨v, d, (valV_neg (p := (j, _)) c).trans a, (lookE_neg (p := (keyD j, _)) fun e => c (keyD_inj e)).trans b, q⟩
theorem tupD_inj {a b : List Key} (e : PyData.tuple (a.map keyD) = .tuple (b.map keyD)) : a = b := keyDs_inj (by injection e)
theorem RpT.look {F : Hp} {k : List Key} : ∀ {kvs : List (List Key × V)} {es : List (PyData × PyData)}, RpT F kvs es → (valV kvs k = none ∧ lookE es (.tuple (k.map keyD)) = none) ∨ ∃ v d, valV kvs k = some v ∧ lookE es (.tuple (k.map keyD)) = some d ∧ Rp F v d
  | _, _, .nil => .inl ⟨rfl, rfl⟩
  | _, _, .cons (k := j) h r => by
    by_cases c : j = k
    · exact .inr ⟨_, _, valV_pos c, lookE_pos (by rw [c]), h⟩
    · rcases r.look (k := k) with ⟨a, b⟩ | ⟨v, d, a, b, q⟩
      · exact .inl ⟨(valV_neg (p := (j, _)) c).trans a, (lookE_neg (p := (.tuple (j.map keyD), _)) fun e => c (tupD_inj e)).trans b⟩
      · exact .inr ⟨v, d, (valV_neg (p := (j, _)) c).trans a, (lookE_neg (p := (.tuple (j.map keyD), _)) fun e => c (tupD_inj e)).trans b, q⟩
theorem RpK.any {F : Hp} {k : Key} : ∀ {kvs : List (Key × V)} {es : List (PyData × PyData)}, RpK F kvs es → (kvs.any fun p => decide (p.1 = k)) = (es.any fun p => @decide (p.1 = keyD k) (Classical.propDecidable _))
  | _, _, .nil => rfl
  | _, _, .cons h r => by
    rw [List.any_cons, List.any_cons, r.any]
    congr 1
    exact decide_eq_decide.mpr ⟨fun e => congrArg keyD e, fun e => keyD_inj e⟩
theorem RpT.any {F : Hp} {k : List Key} : ∀ {kvs : List (List Key × V)} {es : List (PyData × PyData)}, RpT F kvs es → (kvs.any fun p => decide (p.1 = k)) = (es.any fun p => @decide (p.1 = .tuple (k.map keyD)) (Classical.propDecidable _))
  | _, _, .nil => rfl
  | _, _, .cons h r => by
    rw [List.any_cons, List.any_cons, r.any]
    congr 1
    exact decide_eq_decide.mpr ⟨fun e => congrArg (fun q : List Key => PyData.tuple (q.map keyD)) e, fun e => tupD_inj e⟩
theorem RpK.mapPut {F : Hp} {k : Key} {v : V} {d : PyData} (rv : Rp F v d) : ∀ {kvs : List (Key × V)} {es : List (PyData × PyData)}, RpK F kvs es → RpK F (kvs.map fun p => if p.1 = k then (p.1, v) else p) (es.map fun p => @ite _ (p.1 = keyD k) (Classical.propDecidable _) (p.1, d) p)
  | _, _, .nil => .nil
  | _, _, .cons (k := j) h r => by
    rw [List.map_cons, List.map_cons]
    by_cases c : j = k
    · rw [if_pos c, if_pos (by rw [c])]; exact .cons rv (r.mapPut rv)
    · rw [if_neg c, if_neg (fun e => c (keyD_inj e))]; exact .cons h (r.mapPut rv)
theorem RpT.mapPut {F : Hp} {k : List Key} {v : V} {d : PyData} (rv : Rp F v d) : ∀ {kvs : List (List Key × V)} {es : List (PyData × PyData)}, RpT F kvs es → RpT F (kvs.map fun p => if p.1 = k then (p.1, v) else p) (es.map fun p => @ite _ (p.1 = .tuple (k.map keyD)) (Classical.propDecidable _) (p.1, d) p)
  | _, _, .nil => .nil
  | _, _, .cons (k := j) h r => by
    rw [List.map_cons, List.map_cons]
    by_cases c : j = k
    · rw [if_pos c, if_pos (by rw [c])]; exact .cons rv (r.mapPut rv)
    · rw [if_neg c, if_neg (fun e => c (tupD_inj e))]; exact .cons h (r.mapPut rv)
theorem RpK.snoc {F : Hp} {k : Key} {v : V} {d : PyData} (rv : Rp F v d) : ∀ {kvs : List (Key × V)} {es : List (PyData × PyData)}, RpK F kvs es → RpK F (kvs ++ [(k, v)]) (es ++ [(keyD k, d)])
  | _, _, .nil => .cons rv .nil
  | _, _, .cons h r => .cons h (r.snoc rv)
theorem RpT.snoc {F : Hp} {k : List Key} {v : V} {d : PyData} (rv : Rp F v d) : ∀ {kvs : List (List Key × V)} {es : List (PyData × PyData)}, RpT F kvs es → RpT F (kvs ++ [(k, v)]) (es ++ [(.tuple (k.map keyD), d)])
  | _, _, .nil => .cons rv .nil
  | _, _, .cons h r => .cons h (r.snoc rv)
theorem RpK.put {F : Hp} {k : Key} {v : V} {d : PyData} (rv : Rp F v d) {kvs : List (Key × V)} {es : List (PyData × PyData)} (r : RpK F kvs es) : RpK F (putK kvs k v) (putE es (keyD k) d) := by
  unfold putK putE
  rw [r.any]
  split
  · exact r.mapPut rv
  · exact r.snoc rv
theorem RpT.put {F : Hp} {k : List Key} {v : V} {d : PyData} (rv : Rp F v d) {kvs : List (List Key × V)} {es : List (PyData × PyData)} (r : RpT F kvs es) : RpT F (putK kvs k v) (putE es (.tuple (k.map keyD)) d) := by
  unfold putK putE
  rw [r.any]
  split
  · exact r.mapPut rv
  · exact r.snoc rv
theorem putK_ne {κ : Type} [DecidableEq κ] {kvs : List (κ × V)} {k : κ} {v : V} : putK kvs k v ≠ [] := by
  unfold putK
  split
  · rename_i h
    intro q
    rw [List.map_eq_nil_iff] at q
    rw [q] at h
    cases h
  · simp
/-! ### an empty dict is of either kind -/
theorem inv_retag {X : Cx} {pins : List (Addr × Obj)} {σ : L2.St} {H : Hp} {s : Shared} {a : Addr} (I : Inv X pins σ H s) (e : H a = some (.dK [])) : Inv X pins σ (L2.upd H a (.dT [])) s := by
  obtain ⟨z, hd, vs, rel, o, es, ep, h1, h2, h3, h4, h5, h6⟩ := dk_of I.hok e
  cases rel
  have e0 : es.toList = [] := by
    cases q : es.toList with
    | nil => rfl
    | cons x xs => rw [q] at h5; cases h5
  have := d_write (t' := s.toks) (h' := s.heap) (ob := .dT []) I (by rw [e]; exact True.intro) ⟨rfl, fun _ _ => rfl⟩ ⟨o, h1⟩ ⟨Nat.zero_le _, hd, [], .nil, o, es, ep, h1, h2, h3, by rw [e0]; rfl, List.nodup_nil⟩
  exact this
/-- the heap behind a[y] = v, an empty dict of either kind -/
def DPutE (H : Hp) (a : Addr) (y v : V) (H' : Hp) : Prop := DPut H a y v H' ∨ H a = some (.dK []) ∧ DPut (L2.upd H a (.dT [])) a y v H'
def tDSet (td ty tv : TE) : TS := fun D σ H => tv σ H fun v H1 => td σ H1 fun x H2 => ty σ H2 fun y H3 => ∃ a H4, x = .ref a ∧ DPutE H3 a y v H4 ∧ D.nx σ H4
theorem ps_dset {X : Cx} {o i value : Expr} {td ty tv : TE} {pos pos' : Pos} (hu : X.A.units + 1 < cLine) (ho : PE X o td) (hi : PE X i ty) (hv : PE X value tv) (hs : swapsWith value (some (.Subscript o i pos')) pos.line X.env = pure false) :
    PS X (.Assign [.Subscript o i pos'] value pos) (tDSet td ty tv) := by
  refine ⟨fun pins s σ H D I h => ?_⟩
  refine wpAny_Assign_Subscript (thn (hv.run pins s σ H _ I h) fun r sa ⟨v, Ha, Ia, rv, qa⟩ => thn (ho.run pins sa σ Ha _ Ia qa) fun u sb ⟨x, Hb, Ib, rx, qb⟩ => thn (hi.run pins sb σ Hb _ Ib qb) fun iv sc ⟨y, Hc, Ic, ry, a, Hd, ex, g, qc⟩ => ?_) hs
  subst ex
  obtain rfl : u = Value.ref a := rx
  rcases g with g | ⟨e, g⟩
  · exact d_setItem hu Ic g ry rv fun sd Id => ⟨σ, Hd, Id, qc⟩
  · exact d_setItem hu (inv_retag Ic e) g ry rv fun sd Id => ⟨σ, Hd, Id, qc⟩
/-! ### an object of the def's own, or a value -/
abbrev WO := En → (S → Nat → Prop) → Prop
theorem SR.base {z : Zn} {B F H : Hp} {v : V} {u : S} (h : SR z (fun _ => none) F H (some v) u) (k : u.owns = true → ∀ l, v = .ref l → B l = none) : SR z B F H (some v) u := by
  cases u with
  | own ds => obtain ⟨l, xs, e, h1, h2, h3, h4, _⟩ := h; exact ⟨l, xs, e, h1, h2, h3, h4, k rfl l (Option.some.inj e)⟩
  | ownD es => obtain ⟨l, e, h1, h2, h3, _⟩ := h; exact ⟨l, e, h1, h2, h3, k rfl l (Option.some.inj e)⟩
  | _ => exact h
theorem SR.there {z : Zn} {B F H : Hp} {l : Addr} {u : S} (h : SR z B F H (some (.ref l)) u) (o : u.owns = true) : H l ≠ none := by
  cases u with
  | own ds => obtain ⟨m, xs, e, h1, h2, h3, h4, _⟩ := h; cases e; rw [h3]; simp
  | ownD es => obtain ⟨m, e, h1, h2, h3, _⟩ := h; cases e; exact h3.there
  | _ => exact absurd o Bool.false_ne_true
def DenU (z : Zn) (t : TE) (w : WO) : Prop := ∀ (B : Hp) (σ : L2.St) (H F : Hp) (en : En), Sit z B σ H F en → ∀ (P : S → Nat → Prop) (Q : VK), w en P →
  (∀ v H' F' u n', Grow z F H F' H' → Stm z n' H' → SR z (fun _ => none) F' H' (some v) u → (u.owns = true → ∀ l, v = .ref l → H l = none) → P u n' → Q v H') → t σ H Q
structure JU (z : Zn) (X : Cx) (e : Expr) (t : TE) (w : WO) : Prop where
  pe : PE X e t
  de : DenU z t w
theorem Sit.setU {z : Zn} {B : Hp} {σ : L2.St} {H F : Hp} {en : En} {v : V} {u : S} (t : Sit z B σ H F en) (i : Nat) (ou : SR z B F H (some v) u)
    (hn : u.owns = true → ∀ (l : Addr), v = .ref l → ∀ (j : Nat) (b : S), j ≠ i → en.s[j]? = some b → b.owns = true → σ[j]? ≠ some (some (V.ref l))) : Sit z B (σ.set i (some v)) H F ⟨en.s.set i u, en.n⟩ where
  sub := t.sub
  stm := t.stm
  off := t.off
  len := by simpa using t.len
  slot := fun j x e => by
    by_cases hj : i = j
    · subst hj
      have hl : i < en.s.length := by
        have := (List.getElem?_eq_some_iff.mp e).1
        simpa using this
      rw [List.getElem?_set_self hl] at e
      cases e
      exact ⟨some v, by rw [List.getElem?_set_self (by rw [t.len]; exact hl)], ou⟩
    · rw [List.getElem?_set_ne hj] at e ⊢
      exact t.slot j x e
  sep := fun j k x y m hjk e1 e2 o1 o2 e3 => by
    by_cases hj : i = j
    · subst hj
      have hl : i < σ.length := by
        have := (List.getElem?_eq_some_iff.mp e3).1
        simpa using this
      have hle : i < en.s.length := by rw [← t.len]; exact hl
      simp only [List.getElem?_set_self hl] at e3
      simp only [List.getElem?_set_self hle] at e1
      cases e1
      simp only [List.getElem?_set_ne hjk] at e2 ⊢
      exact hn o1 m (Option.some.inj (Option.some.inj e3)) k y (Ne.symm hjk) e2 o2
    · simp only [List.getElem?_set_ne hj] at e1 e3
      by_cases hk : i = k
      · subst hk
        have hl : i < en.s.length := by
          have := (List.getElem?_eq_some_iff.mp e2).1
          simpa using this
        simp only [List.getElem?_set_self hl] at e2
        cases e2
        simp only [List.getElem?_set_self (show i < σ.length by rw [t.len]; exact hl)]
        intro q
        exact hn o2 m (Option.some.inj (Option.some.inj q)) j x hjk e1 o1 e3
      · simp only [List.getElem?_set_ne hk] at e2 ⊢
        exact t.sep j k x y m hjk e1 e2 o1 o2 e3
section
variable {z : Zn} {X : Cx} {e a b c : Expr} {t ta tb tc : TE} {pos p : Pos}
@[simp] def wV (w : WE) : WO := fun en P => w en fun d n => P (.val d) n
theorem JE.ju {w : WE} (h : JE z X e t w) : JU z X e t (wV w) where
  pe := h.pe
  de := fun B σ H F en s P Q hw k => h.de B σ H F en s _ _ hw fun v H1 F1 d n1 g1 s1 r1 q1 => k v H1 F1 (.val d) n1 g1 s1 ⟨v, rfl, r1⟩ (fun o => absurd o Bool.false_ne_true) q1
@[simp] def wOwn (w : WA) : WO := fun en P => w en fun ds n => P (.own ds) n
theorem JL.ju {w : WA} (h : JL z X e t w) : JU z X e t (wOwn w) where
  pe := h.pe
  de := fun B σ H F en s P Q hw k => h.de B σ H F en s _ _ hw fun l xs H1 F1 ds n1 g1 s1 hl hf hx r1 q1 => k (.ref l) H1 F1 (.own ds) n1 g1 s1 ⟨l, xs, rfl, hf, fun q => s.stm.there q hl, hx, r1, rfl⟩ (fun _ m q => by cases q; exact hl) q1
@[simp] def wOwnD : WO := fun en P => P (.ownD []) en.n
theorem ju_dict0 : JU z X (.Dict [] [] pos) tDNewK wOwnD where
  pe := pe_dnewK
  de := fun B σ H F en s P Q hw k => by
    intro l hl
    have hf : F l = none := none_of_sub s.sub hl
    exact k (.ref l) _ F (.ownD []) en.n (Grow.fresh s.sub hl) (s.stm.new hl) ⟨l, rfl, hf, zv_not s.stm hl, .inl ⟨[], upd_same, .nil⟩, rfl⟩ (fun _ m q => by cases q; exact hl) hw
/-- x = e, own or a value -/
@[simp] def wAsgO (w : WO) (i : Nat) : WS := fun P en => w en fun u n => P.nx ⟨en.s.set i u, n⟩
theorem den_asgO {w : WO} {i : Nat} (h : DenU z t w) : DenS z (tAsg t (gName i)) (wAsgO w i) := fun B F0 σ H F en D P s g0 hw k =>
  h B σ H F en s _ _ hw fun v H1 F1 u n1 g1 s1 r1 fr q1 =>
    k.nx _ H1 F1 _ ((s.grow g1 s1).setU i (r1.base fun o l e => g0.dom l (fr o l e)) fun o l e j b hj eb ob q => s.ownAt eb ob q (fr o l e)) (g0.trans g1) q1
theorem js_asgO {x : Str} {pos' : Pos} {w : WO} (i : Nat) (hN : X.N.Nodup) (hi : X.N[i]? = some x) (hx : Loc X.env.scope x) (h : JU z X e t w) (hs : swapsWith e (some (.Name x pos')) pos.line X.env = pure false := by rfl)
    (hf : X.fn x = true ∨ X.env.scope.names.lookup x = some .local := by first | exact .inl rfl | exact .inr rfl | assumption) : JS z X (.Assign [.Name x pos'] e pos) (tAsg t (gName i)) (wAsgO w i) := ⟨ps_set hN hi hx h.pe hs hf, den_asgO h.de⟩
theorem own_apart {z : Zn} {B : Hp} {σ : L2.St} {H F : Hp} {en : En} {i : Nat} {v : V} {u : S} {l : Addr} {H0 : Hp} (hσ : i < σ.length) (he : i < en.s.length) (r1 : SR z (fun _ => none) F H0 (some v) u) (fr : H0 l = none) (s0 : ∀ (j : Nat) (b : S), en.s[j]? = some b → b.owns = true → σ[j]? ≠ some (some (V.ref l))) :
    ∀ (j : Nat) (b : S), (en.s.set i u)[j]? = some b → b.owns = true → (σ.set i (some v))[j]? ≠ some (some (V.ref l)) := fun j b h o q => by
  by_cases hj : i = j
  · subst hj
    rw [List.getElem?_set_self he] at h
    rw [List.getElem?_set_self hσ] at q
    cases h
    cases q
    exact r1.there o fr
  · rw [List.getElem?_set_ne hj] at h q
    exact s0 j b h o q
/-- x, y = a, b, each own or a value -/
@[simp] def wPar2 (i j : Nat) (w v : WO) : WS := fun P en => w en fun a n => v ⟨en.s, n⟩ fun b n' => P.nx ⟨(en.s.set i a).set j b, n'⟩
theorem sit_par2 {B F0 H F H1 F1 H2 F2 : Hp} {σ : L2.St} {en : En} {i j : Nat} {v1 v2 : V} {u1 u2 : S} {n1 n2 : Nat} (s : Sit z B σ H F en) (g0 : Grow z F0 B F H) (hi : i < en.s.length) (g1 : Grow z F H F1 H1) (g2 : Grow z F1 H1 F2 H2) (sm : Stm z n1 H1) (sm2 : Stm z n2 H2)
    (r1 : SR z (fun _ => none) F1 H1 (some v1) u1) (f1 : u1.owns = true → ∀ l, v1 = .ref l → H l = none) (r2 : SR z (fun _ => none) F2 H2 (some v2) u2) (f2 : u2.owns = true → ∀ l, v2 = .ref l → H1 l = none) :
    Sit z B ((σ.set i (some v1)).set j (some v2)) H2 F2 ⟨(en.s.set i u1).set j u2, n2⟩ := by
  have t0 := (s.grow g1 sm).grow g2 sm2
  have r1' : SR z (fun _ => none) F2 H2 (some v1) u1 := r1.grow g2
  have t1 : Sit z B (σ.set i (some v1)) H2 F2 ⟨en.s.set i u1, n2⟩ := t0.setU i (r1'.base fun o l e => g0.dom l (f1 o l e)) fun o l e j b hj eb ob q => s.ownAt eb ob q (f1 o l e)
  refine t1.setU j (r2.base fun o l e => g0.dom l (g1.dom l (f2 o l e))) fun o l e k b _ eb ob q => ?_
  have hs : i < σ.length := by rw [s.len]; exact hi
  exact own_apart (z := z) (B := B) (H := H) (F := F1) (en := en) hs hi r1 (f2 o l e) (fun m c ec oc qc => s.ownAt ec oc qc (g1.dom l (f2 o l e))) k b eb ob q
theorem len_of {B : Hp} {σ : L2.St} {H F : Hp} {en : En} {N : List Str} (s : Sit z B σ H F en) {i : Nat} {x : Str} (h : N[i]? = some x) (e : σ.length = N.length) : i < en.s.length := by
  rw [← s.len, e]
  exact (List.getElem?_eq_some_iff.mp h).1
@[simp] def wPar2L (i j : Nat) (w v : WO) : WS := fun P en => i < en.s.length ∧ wPar2 i j w v P en
theorem den_par2 {w v : WO} {i j : Nat} (ha : DenU z ta w) (hb : DenU z tb v) : DenS z (tPar i j (tCons ta (tCons tb tNil))) (wPar2L i j w v) := fun B F0 σ H F en D P s g0 hw k => by
  obtain ⟨hi, hw⟩ := hw
  refine ha B σ H F en s _ _ hw fun v1 H1 F1 u1 n1 g1 s1 r1 f1 q1 => ?_
  refine hb B σ H1 F1 _ (s.grow g1 s1) _ _ q1 fun v2 H2 F2 u2 n2 g2 s2 r2 f2 q2 => ?_
  exact ⟨_, _, rfl, k.nx _ H2 F2 _ (sit_par2 s g0 hi g1 g2 s1 s2 r1 f1 r2 f2) ((g0.trans g1).trans g2) q2⟩
@[simp] def wPar3L (i j l : Nat) (w v y : WO) : WS := fun P en => (i < en.s.length ∧ j < en.s.length) ∧ w en fun a n => v ⟨en.s, n⟩ fun b n' => y ⟨en.s, n'⟩ fun c n'' => P.nx ⟨((en.s.set i a).set j b).set l c, n''⟩
theorem den_par3 {w v y : WO} {i j l : Nat} (ha : DenU z ta w) (hb : DenU z tb v) (hc : DenU z tc y) : DenS z (tPar3 i j l (tCons ta (tCons tb (tCons tc tNil)))) (wPar3L i j l w v y) := fun B F0 σ H F en D P s g0 hw k => by
  obtain ⟨⟨hi, hj⟩, hw⟩ := hw
  refine ha B σ H F en s _ _ hw fun v1 H1 F1 u1 n1 g1 s1 r1 f1 q1 => ?_
  refine hb B σ H1 F1 _ (s.grow g1 s1) _ _ q1 fun v2 H2 F2 u2 n2 g2 s2 r2 f2 q2 => ?_
  refine hc B σ H2 F2 _ ((s.grow g1 s1).grow g2 s2) _ _ q2 fun v3 H3 F3 u3 n3 g3 s3 r3 f3 q3 => ?_
  have t2 := sit_par2 (j := j) s g0 hi g1 g2 s1 s2 r1 f1 r2 f2
  refine ⟨_, _, _, rfl, k.nx _ H3 F3 _ ((t2.grow g3 s3).setU l (r3.base fun o m e => g0.dom m (g1.dom m (g2.dom m (f3 o m e)))) fun o m e x b _ eb ob q => ?_) (((g0.trans g1).trans g2).trans g3) q3⟩
  exact t2.ownAt eb ob q (f3 o m e)
theorem js_par3 {w v u : WO} {x y r : Str} {px py pr pt : Pos} {kt k2 pt2} (ia ja la : Nat) (hN : X.N.Nodup) (hi : X.N[ia]? = some x) (hj : X.N[ja]? = some y) (hl : X.N[la]? = some r) (ha : JU z X a ta w) (hb : JU z X b tb v) (hcc : JU z X c tc u) (hij : ia ≠ ja := by decide) (hil : ia ≠ la := by decide) (hjl : ja ≠ la := by decide)
    (hx : X.env.scope.names.lookup x = some .local := by rfl) (hy : X.env.scope.names.lookup y = some .local := by rfl) (hr : X.env.scope.names.lookup r = some .local := by rfl) (hc : X.calm = true := by rfl)
    (h0 : starEach [c] X.env = (false, eval c X.env) :: starEach [] X.env := by rfl) (h1 : starEach [b, c] X.env = (false, eval b X.env) :: starEach [c] X.env := by rfl) (h2 : starEach [a, b, c] X.env = (false, eval a X.env) :: starEach [b, c] X.env := by rfl)
    (hw : swappedStores [.Tuple [.Name x px, .Name y py, .Name r pr] kt pt] (.Tuple [a, b, c] k2 pt2) X.env = pure (some [x, y, r]) := by rfl)
    (hs : swapsWithSole [.Tuple [.Name x px, .Name y py, .Name r pr] kt pt] (.Tuple [a, b, c] k2 pt2) pos.line X.env = pure false := by rfl) :
    JS z X (.Assign [.Tuple [.Name x px, .Name y py, .Name r pr] kt pt] (.Tuple [a, b, c] k2 pt2) pos) (tPar3 ia ja la (tCons ta (tCons tb (tCons tc tNil)))) (wPar3L ia ja la w v u) := ⟨ps_par3 hc hN hi hj hl hij hil hjl hx hy hr (pa_cons ha.pe (pa_cons hb.pe (pa_cons hcc.pe pa_nil h0) h1) h2) hw hs, den_par3 ha.de hb.de hcc.de⟩
theorem js_par2 {w v : WO} {x y : Str} {px py pt : Pos} {kt k2 pt2} (ia ja : Nat) (hN : X.N.Nodup) (hi : X.N[ia]? = some x) (hj : X.N[ja]? = some y) (ha : JU z X a ta w) (hb : JU z X b tb v) (hij : ia ≠ ja := by decide)
    (hx : X.env.scope.names.lookup x = some .local := by rfl) (hy : X.env.scope.names.lookup y = some .local := by rfl) (hc : X.calm = true := by rfl)
    (h1 : starEach [b] X.env = (false, eval b X.env) :: starEach [] X.env := by rfl) (h2 : starEach [a, b] X.env = (false, eval a X.env) :: starEach [b] X.env := by rfl)
    (hw : swappedStores [.Tuple [.Name x px, .Name y py] kt pt] (.Tuple [a, b] k2 pt2) X.env = pure (some [x, y]) := by rfl)
    (hs : swapsWithSole [.Tuple [.Name x px, .Name y py] kt pt] (.Tuple [a, b] k2 pt2) pos.line X.env = pure false := by rfl) :
    JS z X (.Assign [.Tuple [.Name x px, .Name y py] kt pt] (.Tuple [a, b] k2 pt2) pos) (tPar ia ja (tCons ta (tCons tb tNil))) (wPar2L ia ja w v) := ⟨ps_par hc hN hi hj hij hx hy (pa_cons ha.pe (pa_cons hb.pe pa_nil h1) h2) hw hs, den_par2 ha.de hb.de⟩
/-! ### own dicts in statements -/
theorem Sit.ownd {B : Hp} {σ : L2.St} {H F : Hp} {en : En} {i : Nat} {es : List (PyData × PyData)} (s : Sit z B σ H F en) (h : en.s[i]? = some (.ownD es)) :
    ∃ l, σ[i]? = some (some (.ref l)) ∧ F l = none ∧ ¬ Zv z l ∧ DAt F H l es ∧ B l = none := by
  obtain ⟨o, h1, l, rfl, h2, h3, h4, h5⟩ := s.slot i _ h
  exact ⟨l, h1, h2, h3, h4, h5⟩
/-- an own thing is locked for good, and known -/
theorem Sit.lock {B : Hp} {σ : L2.St} {H F : Hp} {en : En} {i : Nat} {a : S} {l : Addr} {o : HO} {d : PyData} (s : Sit z B σ H F en) (h : en.s[i]? = some a) (ha : a.owns = true) (h1 : σ[i]? = some (some (.ref l))) (h2 : F l = none) (h3 : ¬ Zv z l) (r : Rp (L2.upd F l o) (.ref l) d) : Sit z B σ (L2.upd H l o) (L2.upd F l o) ⟨en.s.set i (.val d), en.n⟩ := by
  have hi : i < en.s.length := (List.getElem?_eq_some_iff.mp h).1
  have eF : Ex F (L2.upd F l o) := ex_upd h2
  exact {
    sub := fun b u e => by
      by_cases hb : b = l
      · subst hb; rw [upd_same] at e ⊢; exact e
      · rw [upd_ne hb] at e ⊢; exact s.sub b u e
    stm := s.stm.upd h3 (s.ownKind h ha h1)
    off := fun b hb => by
      have hbl : b ≠ l := fun q => h3 (by rw [← q]; exact hb)
      rw [upd_ne hbl]; exact s.off b hb
    len := by simpa using s.len
    slot := fun j t e => by
      by_cases hj : i = j
      · subst hj
        simp only [List.getElem?_set_self hi] at e
        cases e
        exact ⟨_, h1, .ref l, rfl, r⟩
      · simp only [List.getElem?_set_ne hj] at e
        obtain ⟨o', e1, e2⟩ := s.slot j t e
        refine ⟨o', e1, ?_⟩
        cases t with
        | no => trivial
        | val d => obtain ⟨v, a, r⟩ := e2; exact ⟨v, a, r.mono eF⟩
        | vat v d => exact ⟨e2.1, e2.2.mono eF⟩
        | own es =>
          obtain ⟨m, ys, a1, a2, a3, a4, a5, a6⟩ := e2
          have hm : m ≠ l := fun q => by
            subst q
            subst a1
            exact s.sep i j _ _ m hj h e ha rfl h1 e1
          exact ⟨m, ys, a1, by rw [upd_ne hm]; exact a2, a3, by rw [upd_ne hm]; exact a4, a5.mono eF, a6⟩
        | ownD es =>
          obtain ⟨m, a1, a2, a3, a4, a6⟩ := e2
          have hm : m ≠ l := fun q => by
            subst q
            subst a1
            exact s.sep i j _ _ m hj h e ha rfl h1 e1
          exact ⟨m, a1, by rw [upd_ne hm]; exact a2, a3, a4.grow eF fun _ q => by rw [upd_ne hm]; exact q, a6⟩
        | stm => exact e2
    sep := fun j k es fs m hjk e1 e2 o1 o2 e3 => by
      have hne : ∀ (n : Nat) (c : S), (en.s.set i (.val d))[n]? = some c → c.owns = true → en.s[n]? = some c := fun n c h o => by
        by_cases e : i = n
        · subst e
          simp only [List.getElem?_set_self hi] at h
          cases h
          cases o
        · rwa [List.getElem?_set_ne e] at h
      exact s.sep j k es fs m hjk (hne j es e1 o1) (hne k fs e2 o2) o1 o2 e3 }
/-- the rest runs with the thing at d locked, for good -/
def tLkS (t : TS) : TS := fun D σ H => ∃ d u, H d = some u ∧ Mut (some u) ∧ ∀ od, t D σ (L2.upd H d (.frz od u))
theorem pss_lk {X : Cx} {sts : List Stmt} {t : TS} (h : PSs X sts t) : PSs X sts (tLkS t) := ⟨fun pins s σ H D I hw => by
  obtain ⟨d, u, hd, mu, hw⟩ := hw
  obtain ⟨od, I2⟩ := I.lock hd mu
  exact h.run pins s σ _ D I2 (hw od)⟩
@[simp] def wFrzD (i : Nat) (w : WS) : WS := fun P en => ∃ es, en.s[i]? = some (.ownD es) ∧ w P ⟨en.s.set i (.val (.dict es)), en.n⟩
theorem den_frzD {tt : TS} {w : WS} (i : Nat) (h : DenS z tt w) : DenS z (tLkS tt) (wFrzD i w) := fun B F0 σ H F en D P s g hw k => by
  obtain ⟨es, h1, h2⟩ := hw
  obtain ⟨l, e1, e2, e3, e4, e5⟩ := s.ownd h1
  rcases e4 with ⟨kvs, e, r⟩ | ⟨kvs, e, n, r⟩
  · exact ⟨l, _, e, trivial, fun od => h B F0 σ _ _ _ D P (s.lock h1 rfl e1 e2 e3 (.dK upd_same (r.mono (ex_upd e2)))) ((g.wroteO e5 e2).freeze e5 upd_same e2) h2 k⟩
  · exact ⟨l, _, e, trivial, fun od => h B F0 σ _ _ _ D P (s.lock h1 rfl e1 e2 e3 (.dT upd_same n (r.mono (ex_upd e2)))) ((g.wroteO e5 e2).freeze e5 upd_same e2) h2 k⟩
theorem jss_frzD {rest : List Stmt} {tt : TS} {w : WS} (i : Nat) (h : JSs z X rest tt w) : JSs z X rest (tLkS tt) (wFrzD i w) := ⟨pss_lk h.ps, den_frzD i h.de⟩
/-- x[k] = e, x an own dict -/
def okKey (es : List (PyData × PyData)) (k : PyData) : Bool := (keyA k && es.all fun p => keyA p.1) || (keyT k && es.all fun p => keyT p.1)
@[simp] def wPutD (i : Nat) (we wk : WE) : WS := fun P en => ∃ es, en.s[i]? = some (.ownD es) ∧ we en fun d n => wk ⟨en.s, n⟩ fun k n' => okKey es k = true ∧ es.length < 100000 ∧ P.nx ⟨en.s.set i (.ownD (putE es k d)), n'⟩
theorem den_putD {tv tk : TE} {we wk : WE} {i : Nat} (h : Den z tv we) (hk : Den z tk wk) : DenS z (tDSet (tVar i) tk tv) (wPutD i we wk) := fun B F0 σ H F en D P s g hw kk => by
  obtain ⟨es, hes, hw⟩ := hw
  refine h B σ H F en s _ _ hw fun v H1 F1 d n1 g1 s1 r1 q1 => ?_
  have sa := s.grow g1 s1
  obtain ⟨l, e1, e2, e3, e4, e5⟩ := sa.ownd hes
  refine ⟨.ref l, e1, ?_⟩
  refine hk B σ H1 F1 _ sa _ _ q1 fun y H2 F2 k n2 g2 s2 r2 q2 => ?_
  obtain ⟨ok, hl, q⟩ := q2
  have sb := sa.grow g2 s2
  have e2' : F2 l = none := e4.apart g2 e3 e2
  have rv := r1.mono g2.ext
  have fin : ∀ o : HO, DAt F2 (L2.upd H2 l o) l (putE es k d) → D.nx σ (L2.upd H2 l o) := fun o hd =>
    kk.nx σ _ F2 _ (sb.rewrite (u := .ownD (putE es k d)) hes rfl rfl e1 e2' e3 ⟨l, rfl, e2', e3, hd, e5⟩) (((g.trans g1).trans g2).wroteO e5 e2') q
  have e4' : DAt F2 H2 l es := e4.grow g2.ext fun o => g2.keep l o e3
  unfold okKey at ok
  rw [Bool.or_eq_true, Bool.and_eq_true, Bool.and_eq_true] at ok
  rcases ok with ⟨k1, k2⟩ | ⟨k1, k2⟩
  · obtain ⟨kk', rfl⟩ := keyA_of k1
    have ey := rp_key r2
    rcases e4' with ⟨kvs, a, r⟩ | ⟨kvs, a, n, r⟩
    · refine ⟨l, _, rfl, .inl (.inl ⟨kvs, kk', a, ey, Evl.sz_lt (by rw [r.length]; exact hl), rfl⟩), fin _ (.inl ⟨_, upd_same, r.put rv⟩)⟩
    · cases r with
      | nil => exact absurd rfl n
      | cons _ _ => simp [keyA] at k2
  · obtain ⟨ks, rfl⟩ := keyT_of k1
    cases r2 with
    | @tup b xs _ eb ra =>
      have ex := rpA_keys ra
      subst ex
      have hb : H2 b = some (.tup (ks.map kV)) := sb.sub b _ eb
      rcases e4' with ⟨kvs, a, r⟩ | ⟨kvs, a, n, r⟩
      · cases r with
        | nil =>
          have hbl : b ≠ l := fun q => by subst q; rw [a] at hb; cases hb
          have hput : DPut (L2.upd H2 l (.dT [])) l (.ref b) v (L2.upd (L2.upd H2 l (.dT [])) l (.dT (putK [] ks v))) := .inr ⟨[], ks, b, upd_same, rfl, by rw [upd_ne hbl]; exact hb, Evl.sz_lt (by show 0 < 100000; decide), rfl⟩
          have uu : L2.upd (L2.upd H2 l (.dT [])) l (.dT (putK [] ks v)) = L2.upd H2 l (.dT (putK [] ks v)) := by
            funext c
            by_cases hc : c = l
            · subst hc; rw [upd_same, upd_same]
            · rw [upd_ne hc, upd_ne hc, upd_ne hc]
          rw [uu] at hput
          exact ⟨l, _, rfl, .inr ⟨a, hput⟩, fin _ (.inr ⟨_, upd_same, putK_ne, RpT.put rv .nil⟩)⟩
        | cons h' r' => rename_i j _ _ _ _; cases j <;> simp [keyT, keyD] at k2
      · exact ⟨l, _, rfl, .inl (.inr ⟨kvs, ks, b, a, rfl, hb, Evl.sz_lt (by rw [r.length]; exact hl), rfl⟩), fin _ (.inr ⟨_, upd_same, putK_ne, r.put rv⟩)⟩
theorem js_putD {x : Str} {ix : Expr} {tk : TE} {we wk : WE} {p0 p1 : Pos} {k : Nat} (i : Nat) (hr : Room k X.A) (h : JE z X e t we) (hk : JE z X ix tk wk) (hN : X.N[i]? = some x := by rfl) (hv : Vis X.env.scope x := by first | exact Or.inl rfl | exact Or.inr (Or.inl rfl) | exact Or.inr (Or.inr rfl)) (hd : (x == ("__debug__" : Str)) = false := by decide)
    (hcd : (x == ("__classdict__" : Str)) = false := by decide) (hs : swapsWith e (some (.Subscript (.Name x p0) ix p1)) pos.line X.env = pure false := by rfl) :
    JS z X (.Assign [.Subscript (.Name x p0) ix p1] e pos) (tDSet (tVar i) tk t) (wPutD i we wk) where
  ps := ps_dset (by have := hr.units; omega) (pv i hN hv hd hcd) hk.pe h.pe hs
  de := den_putD h.de hk.de
/-! ### what is found in a dict -/
@[simp] def wGetD (wd wk : WE) : WE := fun en P => wd en fun d n => wk ⟨en.s, n⟩ fun k n' => ∃ es r, d = .dict es ∧ lookE es k = some r ∧ P r n'
theorem rp_dget {F H : Hp} {x y : V} {es : List (PyData × PyData)} {k d : PyData} (sub : Ex F H) (rx : Rp F x (.dict es)) (ry : Rp F y k) (h : lookE es k = some d) : ∃ a v, x = .ref a ∧ DGet H a y (some v) ∧ Rp F v d := by
  have hm := lookE_mem h
  cases rx with
  | @dK a o kvs _ ea r =>
    have : k ∈ es.map (·.1) := List.mem_map.mpr ⟨_, hm, rfl⟩
    rw [r.keys] at this
    obtain ⟨p, _, e⟩ := List.mem_map.mp this
    subst e
    rw [rp_key ry]
    rcases r.look (k := p.1) with ⟨_, b⟩ | ⟨v, d', a1, a2, rv⟩
    · rw [b] at h; cases h
    · rw [a2] at h
      cases h
      exact ⟨a, v, rfl, .inl ⟨kvs, p.1, .inr ⟨o, sub a _ ea⟩, rfl, a1.symm⟩, rv⟩
  | @dT a o kvs _ ea n r =>
    have : k ∈ es.map (·.1) := List.mem_map.mpr ⟨_, hm, rfl⟩
    rw [r.keys] at this
    obtain ⟨p, _, e⟩ := List.mem_map.mp this
    subst e
    cases ry with
    | @tup b xs _ eb ra =>
      have ex := rpA_keys ra
      subst ex
      rcases r.look (k := p.1) with ⟨_, b'⟩ | ⟨v, d', a1, a2, rv⟩
      · rw [b'] at h; cases h
      · rw [a2] at h
        cases h
        exact ⟨a, v, rfl, .inr ⟨kvs, p.1, b, .inr ⟨o, sub a _ ea⟩, rfl, sub b _ eb, a1.symm⟩, rv⟩
theorem je_dget {o i : Expr} {td tk : TE} {wd wk : WE} {k : Nat} (hr : Room k X.A) (hd : JE z X o td wd) (hk : JE z X i tk wk) (hs : NoSl i := by intro _ _; rfl) : JE z X (.Subscript o i pos) (tDGet td tk) (wGetD wd wk) where
  pe := pe_dget (by have := hr.units; omega) hd.pe hk.pe hs
  de := fun B σ H F en s P Q hw kk => by
    refine hd.de B σ H F en s _ _ hw fun x H1 F1 d n1 g1 s1 r1 q1 => ?_
    refine hk.de B σ H1 F1 _ (s.grow g1 s1) _ _ q1 fun y H2 F2 k n2 g2 s2 r2 q2 => ?_
    obtain ⟨es, r, rfl, e, q⟩ := q2
    obtain ⟨a, v, ex, g, rv⟩ := rp_dget g2.sub (r1.mono g2.ext) r2 e
    exact ⟨a, v, ex, g, kk v H2 F2 r n2 (g1.trans g2) s2 rv q⟩
end
end DD
/-! The Deep layer, 12: the sorted keys of a dict. -/
namespace DD
open PySem PySem.Spec PyProof.Rows L2
open Evl (Ex)
open PySem.W (alike dataLt dataLe AllAlike Sortable EachIs)
def rSrtK (K : PySem.W.Frag) : List V → Hp → VK → Prop := fun vs H Q => ∃ (F : Hp) (a : Addr) (es : List (PyData × PyData)), vs = [V.ref a] ∧ Ex F H ∧ Rp F (.ref a) (.dict es) ∧ flatDs (es.map (·.1)) = true ∧ AllAlike (es.map (·.1)) ∧ Sortable (es.map (·.1)) ∧ (∀ d ∈ es.map (·.1), d.depth ≤ 60) ∧
  ∀ (G : Hp) (ys : List V) (p : Addr), Ex F G → Ex G H → (∀ b, F b = none → G b = none ∨ ∃ xs, G b = some (.tup xs)) → RpA G ys ((es.map (·.1)).mergeSort (dataLe false id)) → H p = none → Q (.ref p) (L2.upd H p (.lst ys))
theorem rpA_kV {F : Hp} : ∀ ks : List Key, RpA F (ks.map kV) (ks.map keyD)
  | [] => .nil
  | .inl i :: ks => .cons (.int i) (rpA_kV ks)
  | .inr x :: ks => .cons (.str x) (rpA_kV ks)
/-- the key tuples of a dict, known -/
def knowB (F H : Hp) (bs : List Addr) : Hp := fun b => if b ∈ bs then H b else F b
theorem keys_src {X : Cx} {pins : List (Addr × Obj)} {σ : L2.St} {F H : Hp} {s : Shared} {a : Addr} {es : List (PyData × PyData)} (hc : X.calm = true) (I : Inv X pins σ H s) (e : Ex F H) (r : Rp F (.ref a) (.dict es)) :
    ∃ (n : Nat) (P : Nat → Value → Prop) (OK : Heap → Prop), PySem.W.KdlSrc X.prog X.w "dict" a a n P OK ∧ OK s.heap ∧ n ≤ sizeLine ∧ (∃ o, s.heap.get? a = some o) ∧ ∀ acc : Array Value, ItemsOf P acc n →
      ∃ (G : Hp) (xs : List V), Vals xs acc.toList ∧ Ex F G ∧ Ex G H ∧ (∀ b, F b = none → G b = none ∨ ∃ ys, G b = some (.tup ys)) ∧ RpA G xs (es.map (·.1)) := by
  cases r with
  | @dK a o kvs _ ea rk =>
    obtain ⟨zz, lo, vs, rel, dd⟩ := dk_rd I.hok (.inr ⟨o, e a _ ea⟩)
    obtain ⟨ep, hat⟩ := dd.dictAt
    have hl : kvs.length = vs.length := rel.length
    refine ⟨_, _, _, PySem.W.kdl_dict (knd := mixKind X.prog X.w) (kvs := vs) (ep := ep) lo, hat, by omega, ?_, fun acc hacc => ?_⟩
    · obtain ⟨o, _, _, h1, _⟩ := dd
      exact ⟨o, h1⟩
    · have hv : Vals (vs.map fun p => kV p.1) acc.toList := keys_at (by rw [Array.length_toList]; exact hacc.1) fun j v q => hacc.2 j v (by rw [← Array.getElem?_toList]; exact q)
      refine ⟨F, _, hv, Evl.Ex.refl F, e, fun b hb => .inl hb, ?_⟩
      have e1 : (vs.map fun p => kV p.1) = (kvs.map (·.1)).map kV := by rw [rel.keys, List.map_map]; rfl
      have e2 : es.map (·.1) = (kvs.map (·.1)).map keyD := by rw [rk.keys, List.map_map]; rfl
      rw [e1, e2]
      exact rpA_kV _
  | @dT a o0 kvs _ ea n0 rt =>
    obtain ⟨_, zz, hs, ks, pr, o, des, ep, ho, hx, hdt, he, hn⟩ := (show ObjOk X.prog X.w H s.heap a (.frz o0 (.dT kvs)) from I.hok a _ (e a _ ea))
    have l1 : des.size = ks.length := size_of_entries he
    have l2 : kvs.length = ks.length := Paired.length pr
    refine ⟨_, _, _, kdl_raw hs hx hdt, ho, by omega, ⟨o, ho⟩, fun acc it => ?_⟩
    have eb : acc.toList = (ks.map fun x => x.2.1).map Value.ref := by
      have hl : acc.toList.length = ks.length := by rw [Array.length_toList, it.1]; exact l1
      refine List.ext_getElem? fun j => ?_
      rw [List.map_map, List.getElem?_map]
      cases hj : acc.toList[j]? with
      | none =>
        have := List.getElem?_eq_none_iff.mp hj
        rw [List.getElem?_eq_none (by omega)]
        rfl
      | some v =>
        obtain ⟨en, hen, hv⟩ := it.2 j v (by rw [← Array.getElem?_toList]; exact hj)
        have qe := entry_at he j
        rw [hen] at qe
        cases hb : ks[j]? with
        | none => rw [hb] at qe; cases qe
        | some b =>
          rw [hb] at qe
          have : en = entryOfKey (tupleKind (mixKind X.prog X.w)) b := Option.some.inj qe
          rw [hv, this]
          rfl
    have rv : Vals ((ks.map fun x => x.2.1).map V.ref) acc.toList := by rw [eb]; exact vals_refs _
    have hk : IsKeys H kvs (ks.map fun x => x.2.1) := isKeys_of pr
    generalize (ks.map fun x => x.2.1) = bs at rv hk
    have eFG : Ex F (knowB F H bs) := fun b u q => by
      unfold knowB
      by_cases hb : b ∈ bs
      · rw [if_pos hb]; exact e b u q
      · rw [if_neg hb]; exact q
    have eGH : Ex (knowB F H bs) H := fun b u q => by
      unfold knowB at q
      by_cases hb : b ∈ bs
      · rwa [if_pos hb] at q
      · rw [if_neg hb] at q; exact e b u q
    have tup : ∀ b ∈ bs, ∃ ys, H b = some (.tup ys) := by
      intro b hb
      unfold IsKeys at hk
      have go : ∀ (kvs : List (List Key × V)) (bs : List Addr), Paired (fun (p : List Key × V) b => H b = some (.tup (p.1.map kV))) kvs bs → ∀ b ∈ bs, ∃ ys, H b = some (.tup ys) := by
        intro kvs bs hk
        induction hk with
        | nil => intro b hb; cases hb
        | cons h1 _ ih =>
          intro b hb
          rcases List.mem_cons.mp hb with q | q
          · rw [q]; exact ⟨_, h1⟩
          · exact ih b q
      exact go kvs bs hk b hb
    refine ⟨knowB F H bs, _, rv, eFG, eGH, fun b hb => ?_, ?_⟩
    · unfold knowB
      by_cases q : b ∈ bs
      · obtain ⟨ys, h1⟩ := tup b q
        rw [if_pos q]
        exact .inr ⟨ys, h1⟩
      · rw [if_neg q]; exact .inl hb
    · rw [rt.keys]
      have key : ∀ (kvs : List (List Key × V)) (cs : List Addr), (∀ c ∈ cs, c ∈ bs) → IsKeys H kvs cs → RpA (knowB F H bs) (cs.map V.ref) (kvs.map fun p => .tuple (p.1.map keyD)) := by
        intro kvs
        induction kvs with
        | nil => intro cs _ h; cases h; exact .nil
        | cons p kvs ih =>
          intro cs hc h
          cases h with
          | cons h1 h2 =>
            refine .cons (.tup (xs := p.1.map kV) ?_ (rpA_kV _)) (ih _ (fun c hq => hc c (by simp [hq])) h2)
            unfold knowB
            rw [if_pos (hc _ (by simp))]
            exact h1
      exact key kvs bs (fun c h => h) hk
mutual
/-- what a datum is read off stands on the heap -/
theorem reads_old {h : Heap} : ∀ (d : PyData) (v : Value) (as : List Addr), flatD d = true → Reads h v d as → ∀ a ∈ as, ∃ o, h.get? a = some o
  | .none, _, _, _, r => by cases r; intro a ha; cases ha
  | .bool _, _, _, _, r => by cases r; intro a ha; cases ha
  | .int _, _, _, _, r => by cases r; intro a ha; cases ha
  | .str _, _, _, _, r => by cases r; intro a ha; cases ha
  | .list ds, _, _, hf, r => by
    cases r with
    | list h1 h2 h3 h4 =>
      intro a ha
      rcases List.mem_cons.mp ha with q | q
      · rw [q]; exact ⟨_, h1⟩
      · exact readsAll_old ds _ _ (by simpa [flatD] using hf) h4 a q
  | .tuple ds, _, _, hf, r => by
    cases r with
    | tuple h1 h2 h3 h4 => exact readsAll_old ds _ _ (by simpa [flatD] using hf) h4
  | .dict _, _, _, hf, _ => by simp [flatD] at hf
theorem readsAll_old {h : Heap} : ∀ (ds : List PyData) (vs : List Value) (as : List Addr), flatDs ds = true → ReadsAll h vs ds as → ∀ a ∈ as, ∃ o, h.get? a = some o
  | [], _, _, _, r => by cases r; intro a ha; cases ha
  | d :: ds, _, _, hf, r => by
    rw [flatDs, Bool.and_eq_true] at hf
    cases r with
    | cons h1 h2 =>
      intro a ha
      rcases List.mem_append.mp ha with q | q
      · exact reads_old d _ _ hf.1 h1 a q
      · exact readsAll_old ds _ _ hf.2 h2 a q
end
theorem cr_srtK {X : Cx} {k : Nat} (hc : X.calm = true) (hr : Room k X.A) : CallR X (.builtin "sorted") (rSrtK X.K) := by
  intro pins s σ H vs us Q I r h
  obtain ⟨F, a, es, rfl, e, rp, hfl, hal, hso, hdep, q⟩ := h
  rw [Vals.ref1 r]
  obtain ⟨n, P, OK, src, ok, hn, _, conv⟩ := keys_src hc I e rp
  refine Calls.call_function_entry PyProof.Rows.kind_sorted PyProof.Rows.plain_sorted PyProof.Rows.entry_sorted (PyProof.Rows.args_sorted1 _) ?_
  unfold Builtin.«sorted»
  refine wpAny_bind (m := checkCount "sorted" 1 1 _) (wpAny_pure ?_)
  refine wpAny_bind (PySem.W.kdu_collect (A := X.A.in1) src (I.ok.hd hc) ok hn fun h' tk acc hk hacc => ?_)
  obtain ⟨G, xs, rv, e1, e2, e3, ra⟩ := conv acc hacc
  have I1 : Inv X pins σ H { s with heap := h', toks := tk } := I.kept hk
  have hlen : acc.toList.length = (es.map (·.1)).length := by rw [← rv.length, ra.length]
  have hz : acc.toList.length ≤ sizeLine := by rw [Array.length_toList, hacc.1]; exact hn
  refine wpAny_bind (wpAny_newList ?_ hz)
  have hoL : (h'.push (seqObj "list" acc.toList.toArray 0)).get? h'.objs.size = some (seqObj "list" acc.toList.toArray 0) := Heap.get?_push_size _ rfl
  show wpAny _ _ _ _ _ { s with heap := h'.push (seqObj "list" acc.toList.toArray 0), toks := tk }
  have each : EachIs (fun u d => ∃ x, RelV x u ∧ Rp G x d) acc.toList (es.map (·.1)) := by
    have key : ∀ (xs : List V) (us : List Value) (ds : List PyData), Vals xs us → RpA G xs ds → EachIs (fun u d => ∃ x, RelV x u ∧ Rp G x d) us ds := by
      intro xs
      induction xs with
      | nil => intro us ds a1 a2; cases a1; cases a2; exact .nil
      | cons x xs ih =>
        intro us ds a1 a2
        cases a1 with
        | cons b1 b2 => cases a2 with
          | cons c1 c2 => exact .cons ⟨x, b1, c1⟩ (ih _ _ b2 c2)
    exact key xs _ _ rv ra
  have reads : ∀ (us : List Value) (ds : List PyData), flatDs ds = true → EachIs (fun u d => ∃ x, RelV x u ∧ Rp G x d) us ds → EachIs (fun u d => ∃ as, Reads (h'.push (seqObj "list" acc.toList.toArray 0)) u d as ∧ ¬ h'.objs.size ∈ as) us ds := by
    intro us ds hf h
    induction h with
    | nil => exact .nil
    | cons b1 b2 ih =>
      rw [flatDs, Bool.and_eq_true] at hf
      obtain ⟨x, rx, rpx⟩ := b1
      obtain ⟨as, rr⟩ := Dp.reads I1 _ x _ (rpx.dp (K := X.K) e2 hf.1) rx
      refine .cons ⟨as, PyProof.Rows.Reads.keeps (fun _ _ q => Heap.get?_push_of_some _ q) rr, fun hm => ?_⟩ (ih hf.2)
      obtain ⟨o, ho⟩ := reads_old _ _ _ hf.1 rr _ hm
      exact absurd (Heap.lt_size ho) (Nat.lt_irrefl _)
  have hmap : (es.map (·.1)).map (id : PyData → PyData) = es.map (·.1) := by simp
  refine wpAny_bind (wpAny_holding (PySem.W.list_sort_data (enc := id) (R := fun u d => ∃ x, RelV x u ∧ Rp G x d) (vs := acc.toList) hoL each (reads _ _ hfl each) (by rw [hmap]; exact hal) (by rw [hmap]; exact hso) (by rw [← hlen]; exact hz)
    (fun b hb => by have := hdep b hb; have := hr.un; have hu : X.A.in1.units = X.A.units + 1 := rfl; simp only [id]; omega) fun out ho he => ?_))
  have back : ∀ (us : List Value) (ds : List PyData), EachIs (fun u d => ∃ x, RelV x u ∧ Rp G x d) us ds → ∃ ys : List V, Vals ys us ∧ RpA G ys ds := by
    intro us ds h
    induction h with
    | nil => exact ⟨[], .nil, .nil⟩
    | cons b1 b2 ih =>
      obtain ⟨ys, a1, a2⟩ := ih
      obtain ⟨x, c1, c2⟩ := b1
      exact ⟨x :: ys, .cons c1 a1, .cons c2 a2⟩
  obtain ⟨ys, y1, y2⟩ := back _ _ he
  obtain ⟨ep, hep⟩ := PyProof.Rows.sortedHeap_at (vs := acc.toList) (out := out.toArray) hoL
  have hys : ys.length ≤ sizeLine := by rw [y1.length, ho, ← hlen]; exact hz
  refine wpAny_pure ⟨_, rfl, .ref h'.objs.size, L2.upd H h'.objs.size (.lst ys), I1.laid (t' := tk) (fun b u q => ?_) (Nat.le_refl _) (show ObjOk X.prog X.w _ _ _ (.lst ys) from ⟨hys, out, ep, y1, hep⟩), rfl, q G ys _ e1 e2 e3 y2 (I1.hok.fresh (Nat.le_refl _))⟩
  have hb : b < h'.objs.size := Heap.lt_size q
  rw [PyProof.Rows.sortedHeap_old (Nat.ne_of_lt hb) (by rw [size_push']; exact Nat.lt_succ_of_lt hb)]
  exact Heap.get?_push_of_some _ q
section
variable {z : Zn} {X : Cx} {e : Expr} {t : TE} {we : WE} {p pos : Pos} {k : Nat}
@[simp] def wSortK (w : WE) : WA := fun en P => w en fun d n => ∃ es, d = .dict es ∧ OkSort (es.map (·.1)) ∧ P ((es.map (·.1)).mergeSort (dataLe false id)) n
theorem jl_sortK (hr : Room k X.A) (bi : ∀ x ∈ BI, X.mg x = none) (h : JE z X e t we) (hc : X.calm = true := by rfl) (hg : Gl X "sorted" := by rfl) (he : starEach [e] X.env = (false, eval e X.env) :: starEach [] X.env := by rfl) (hpl : (backTo pos (starEach [] X.env)).any (·.1) = false := by rfl) :
    JL z X (.Call (.Name "sorted" p) [e] [] pos) (tCB (kC rSrtK) (tCons t tNil)) (wSortK we) where
  pe := pe_callB (kC_ok (cr_srtK hc hr)) hg (bi _ (by decide)) (by decide +kernel) (pa_cons h.pe pa_nil he) (by decide) (by decide) he hpl
  de := fun B σ H F en s P Q hw kk => by
    refine h.de B σ H F en s _ _ hw fun v H1 F1 d n1 g1 s1 r1 q1 => ?_
    obtain ⟨es, rfl, o, q⟩ := q1
    have hv : ∃ a, v = .ref a := by cases r1 <;> exact ⟨_, rfl⟩
    obtain ⟨a, rfl⟩ := hv
    intro K
    refine ⟨F1, a, es, rfl, g1.sub, r1, o.fl, o.al, o.so, o.dp, fun G ys l e1 e2 e3 ry hl => ?_⟩
    have g2 : Grow z F1 H1 G (L2.upd H1 l (.lst ys)) := {
      keep := fun b o _ h => by rw [upd_ne (ne_of_none h hl)]; exact h
      dom := fun b h => by
        by_cases hb : b = l
        · subst hb; exact hl
        · rwa [upd_ne hb] at h
      ext := e1
      sub := fun b u h => by
        have := e2 b u h
        rw [upd_ne (ne_of_none this hl)]; exact this
      new := fun b _ h => e3 b h }
    exact kk l ys _ G _ n1 (g1.trans g2) (s1.new hl) (g1.dom l hl) (none_of_sub e2 hl) upd_same ry q
end
section
variable {z : Zn} {X : Cx} {a b : Expr} {ta tb : TE} {pos : Pos}
/-- x, y = a, b where a name is used by a nested block: the tuple is made and taken apart -/
theorem den_unp2 {w v : WO} {i j : Nat} (ha : DenU z ta w) (hb : DenU z tb v) : DenS z (tAsg (tTup (tCons ta (tCons tb tNil))) (gSq 2 (gCons (gName i) (gCons (gName j) gNil)))) (wPar2L i j w v) := fun B F0 σ H F en D P s g0 hw k => by
  obtain ⟨hi, hw⟩ := hw
  refine ha B σ H F en s _ _ hw fun v1 H1 F1 u1 n1 g1 s1 r1 f1 q1 => ?_
  refine hb B σ H1 F1 _ (s.grow g1 s1) _ _ q1 fun v2 H2 F2 u2 n2 g2 s2 r2 f2 q2 => ?_
  refine ⟨Evl.sz_of (by show 2 ≤ 100000; decide), fun p hp => ?_⟩
  refine ⟨p, [v1, v2], rfl, fun K => .inr (SqT.of upd_same), rfl, v1, [v2], rfl, v2, [], rfl, rfl, ?_⟩
  have gp : Grow z F2 H2 F2 (L2.upd H2 p (.tup [v1, v2])) := Grow.fresh g2.sub hp
  have t2 := sit_par2 (j := j) s g0 hi g1 g2 s1 s2 r1 f1 r2 f2
  exact k.nx _ _ F2 _ (t2.grow (n' := n2) gp (s2.new hp)) (((g0.trans g1).trans g2).trans gp) q2
theorem js_unp2 {w v : WO} {x y : Str} {px py pt : Pos} {kt k2 pt2} (ia ja : Nat) (hN : X.N.Nodup) (hi : X.N[ia]? = some x) (hj : X.N[ja]? = some y) (hx : Loc X.env.scope x) (hy : Loc X.env.scope y) (ha : JU z X a ta w) (hb : JU z X b tb v)
    (hc : X.calm = true := by rfl) (hf : X.fn x = true ∨ X.env.scope.names.lookup x = some .local := by first | exact .inl rfl | exact .inr rfl) (hf2 : X.fn y = true ∨ X.env.scope.names.lookup y = some .local := by first | exact .inl rfl | exact .inr rfl)
    (h1 : starEach [b] X.env = (false, eval b X.env) :: starEach [] X.env := by rfl) (h2 : starEach [a, b] X.env = (false, eval a X.env) :: starEach [b] X.env := by rfl)
    (hn : (assignEach [.Name x px, .Name y py] X.env).length = 2 := by rfl) (hst : (assignEach [.Name x px, .Name y py] X.env).findIdx? (·.1) = none := by rfl)
    (a1 : (assignEach [.Name x px, .Name y py] X.env).map (·.2) = assign (.Name x px) X.env :: (assignEach [.Name y py] X.env).map (·.2) := by rfl) (a2 : (assignEach [.Name y py] X.env).map (·.2) = assign (.Name y py) X.env :: (assignEach [] X.env).map (·.2) := by rfl)
    (hs : swapsWithSole [.Tuple [.Name x px, .Name y py] kt pt] (.Tuple [a, b] k2 pt2) pos.line X.env = pure false := by rfl) (hw : swappedStores [.Tuple [.Name x px, .Name y py] kt pt] (.Tuple [a, b] k2 pt2) X.env = pure none := by rfl)
    (h3 : (assignEach [.Tuple [.Name x px, .Name y py] kt pt] X.env).map (·.2) = [assign (.Tuple [.Name x px, .Name y py] kt pt) X.env] := by rfl) :
    JS z X (.Assign [.Tuple [.Name x px, .Name y py] kt pt] (.Tuple [a, b] k2 pt2) pos) (tAsg (tTup (tCons ta (tCons tb tNil))) (gSq 2 (gCons (gName ia) (gCons (gName ja) gNil)))) (wPar2L ia ja w v) where
  ps := ps_asg (pe_tup (pa_cons ha.pe (pa_cons hb.pe pa_nil h1) h2)) (pg_sq hc (pgs_cons (pg_name hN hi hx hf) (pgs_cons (pg_name hN hj hy hf2) pgs_nil a2) a1) hn hst) hs hw h3
  de := den_unp2 ha.de hb.de
end
section
variable {z : Zn} {X : Cx} {st : Stmt} {rest : List Stmt} {t u : TS} {w v : WS}
/-- two parts with a statement between them that is chosen by the proof -/
@[simp] def wCut (w v : WS) : WS := fun P en => ∃ I : En → Prop, w { P with nx := I } en ∧ ∀ en', I en' → v P en'
theorem den_cut (h : DenS z t w) (h' : DenS z u v) : DenS z (tSeq t u) (wCut w v) := fun B F0 σ H F en D P s g hw k => by
  obtain ⟨I, h1, h2⟩ := hw
  exact h B F0 σ H F en { D with nx := u D } { P with nx := I } s g h1 ⟨fun σ' H' F' en' s' g' q => h' B F0 σ' H' F' en' D P s' g' (h2 en' q) k, k.rt, k.bk, k.ct, k.xx⟩
theorem jss_cut (h : JS z X st t w) (h' : JSs z X rest u v) : JSs z X (st :: rest) (tSeq t u) (wCut w v) := ⟨pss_cons h.ps h'.ps, den_cut h.de h'.de⟩
end
end DD
/-! The Deep layer, 13: calls by names, reading a list of the def's own. -/
namespace DD
open PySem PySem.Spec PyProof.Rows L2
open Evl (Ex)
/-! ### a call by names alone -/
/-- values for names ks bind to the parameters ps in the order that g tells -/
structure KwB (K : PySem.W.Frag) (fd : FuncData) (ps ks : List Str) (g : {α : Type} → List α → List α) : Prop where
  to : ∀ (s : Shared) (ws : List Value), K.In s.heap → (g ws).length = ps.length → ws.length = ks.length → BindsTo s fd ⟨[], ks.zip ws⟩ (ps.zip (g ws))
  len : ∀ {α : Type} (ws : List α), ws.length = ks.length → (g ws).length = ps.length
  rel : ∀ {zs : List V} {ws : List Value}, Vals zs ws → Vals (g zs) (g ws)
  rpa : ∀ {F : Hp} {zs : List V} {ds : List PyData}, RpA F zs ds → RpA F (g zs) (g ds)
def tCallW (sp : Sp) (m : Nat) (g : {α : Type} → List α → List α) (E : XK) (tk : TA) : TE := fun σ H Q => tk σ H fun zs H2 => zs.length = m ∧ sp (g zs) H2 Q E
theorem pe_callW {X : Cx} {CX : CXT} {k : Nat} {f : Addr} {fd : FuncData} {ps ks : List Str} {sp : Sp} {E : XK} {x : Str} {p pos : Pos} {kws : List Keyword} {tk : TA} {g : {α : Type} → List α → List α} (F : FnOk X.prog X.w X.K X.mg X.base CX k f fd ps sp) (hr : Room k X.A) (hg : Gl X x) (hm : X.mg x = some (.ref f)) (hk : PySem.W.keepIn X.K (.ref f) = true) (hb : KwB X.K fd ps ks g) (hx : Passes CX X E)
    (hkw : PK X kws tk) (hall : (backToKw pos (keywordEach kws X.env)).all (·.1.isSome) = true := by rfl) (hks : (backToKw pos (keywordEach kws X.env)).filterMap (·.1) = ks := by rfl)
    (hdb : (x == ("__debug__" : Str)) = false := by decide) (hpl : ((backTo pos (starEach [] X.env)).any (·.1) || (backToKw pos (keywordEach kws X.env)).any (·.1.isNone)) = false := by rfl) :
    PE X (.Call (.Name x p) [] kws pos) (tCallW sp ks.length g E tk) := by
  refine ⟨fun pins s σ H Q I h => ?_⟩
  refine wpAny_Call_Name_kw (ld_glob I hg hm ?_ hdb)
  refine PySem.W.callWith_KW0 (h₀ := X.base) I.ok.mod.kin hk hall (thn (hkw.run pos pins s σ H _ I h) fun ws s2 ⟨zs, H2, I2, rz, hl, q2⟩ => ⟨I2.kIn, ?_⟩) hpl
  rw [hks]
  have r2 := hb.rel rz
  have hlw : ws.length = ks.length := rz.length.symm.trans hl
  refine wpAny_call (codeAny_mono (F.run X.A X.stack s2 H2 ⟨[], ks.zip ws⟩ (g ws) (g zs) Q E hr I2.env0 (hb.to s2 ws I2.kIn (hb.len ws hlw) hlw) r2 q2) fun r s' hq => ?_)
  cases r with
  | error e => exact hx pins σ H2 _ e s' I2 hq
  | ok fl =>
    cases fl with
    | ret u => exact I2.after hq
    | next => exact False.elim hq
    | brk => exact False.elim hq
    | cont => exact False.elim hq
structure JK (z : Zn) (X : Cx) (kws : List Keyword) (t : TA) (w : WA) : Prop where
  pk : PK X kws t
  de : DenA z t w
/-- a def that may be called by names too -/
structure DefPK (P : Program) (w : World) (K : PySem.W.Frag) (mg : Str → Option Value) (base : Heap) (k : Nat) (x : Str) (np : Nat) (sp : PSp) (ks : List Str) (g : {α : Type} → List α → List α) : Prop where
  ex : ∃ f fd ps, FnOk P w K mg base CX0 k f fd ps (spP np sp) ∧ mg x = some (.ref f) ∧ PySem.W.keepIn K (.ref f) = true ∧ Binds K fd ps [] ∧ KwB K fd ps ks g
section
variable {P : Program} {w : World} {K : PySem.W.Frag} {mg : Str → Option Value} {base : Heap} {x : Str} {st : Stmt} {N ps ks : List Str} {k np : Nat} {sp : PSp} {g : {α : Type} → List α → List α}
theorem DefPK.p (D : DefPK P w K mg base k x np sp ks g) : DefP P w K mg base k x np sp := by
  obtain ⟨f, fd, ps, h1, h2, h3, h4, _⟩ := D.ex
  exact ⟨f, fd, ps, h1, h2, h3, h4⟩
theorem DefPK.mono {j : Nat} (D : DefPK P w K mg base j x np sp ks g) (h : j ≤ k) : DefPK P w K mg base k x np sp ks g := by
  obtain ⟨f, fd, ps, h1, r⟩ := D.ex
  exact ⟨f, fd, ps, h1.mono h, r⟩
theorem DefT.pk (D : DefT K mg x st ps) (N : List Str) (S : FnScope N ps (defScope st)) (ks : List Str) (g : {α : Type} → List α → List α)
    (hb : ∀ (kV doc pm : Value) (an : Option Addr) (cdv ct : Value) (ws : List Value), ws.length = ks.length → bindArgs (PySem.W.fnOf x x (defArgs st) (defBody st) (defScope st) .none kV doc pm an cdv ct) ⟨[], ks.zip ws⟩ = pure (ps.zip (g ws)))
    (hl : ∀ {α : Type} (ws : List α), ws.length = ks.length → (g ws).length = ps.length) (hrel : ∀ {zs : List V} {ws : List Value}, Vals zs ws → Vals (g zs) (g ws)) (hra : ∀ {F : Hp} {zs : List V} {ds : List PyData}, RpA F zs ds → RpA F (g zs) (g ds))
    (hbody : ∀ (f : Addr) (cdv : Value) (A : Around) (outer : List Env) (s : Shared) (H : Hp) (E : XK), Room k (A.deeper (envOfC x (defScope st) s.heap.objs.size f cdv)) →
      ∃ t wb, JSs z0 (cxOf CX0 P w K mg base N x (defScope st) f cdv A outer s H E).nox (defBody st) t wb ∧ ∀ ds Q, ds.length = ps.length → sp ds Q → wb { nx := fun _ => Q .none, rt := fun d _ => Q d } (startE N ds)) :
    DefPK P w K mg base (k + 1) x ps.length sp ks g := by
  obtain ⟨f, fd, F, hm, hbn⟩ := D.ex
  refine ⟨f, fd, ps, fn_p F S (hbody f), hm, F.kp, hbn, ?_⟩
  obtain ⟨oc, od, kV, doc, pm, an, cdv, ct, osl, rfl, lk, hcd⟩ := F.ex
  exact ⟨fun s ws _ _ hw => BindsTo.of_eq (hb kV doc pm an cdv ct ws hw), hl, hrel, hra⟩
end
section
variable {z : Zn} {X : Cx} {e : Expr} {t : TE} {we : WE} {p pos kpos : Pos} {k j np : Nat} {nm : Option Str} {kws : List Keyword} {tk : TA} {wk : WA} {ks : List Str} {g : {α : Type} → List α → List α}
theorem jk_nil : JK z X [] tNil wNil := ⟨pk_nil, (ja_nil (X := X)).de⟩
theorem jk_cons (h : JE z X e t we) (hr : JK z X kws tk wk) : JK z X (⟨nm, e, kpos⟩ :: kws) (tCons t tk) (wCons we wk) where
  pk := pk_cons h.pe hr.pk
  de := fun B σ H F en s P Q hw kk => by
    refine h.de B σ H F en s _ _ hw fun v H1 F1 d n1 g1 s1 r1 q1 => ?_
    refine hr.de B σ H1 F1 _ (s.grow g1 s1) _ _ q1 fun vs H2 F2 ds n2 g2 s2 r2 q2 => ?_
    exact kk _ H2 F2 _ n2 (g1.trans g2) s2 (.cons (r1.mono g2.ext) r2) q2
@[simp] def wCallW (m : Nat) (g : {α : Type} → List α → List α) (np : Nat) (sp : PSp) (w : WA) : WE := fun en P => w en fun ds n => ds.length = m ∧ (g ds).length = np ∧ sp (g ds) fun d => P d n
theorem den_callW {sp : PSp} {f : Addr} {fd : FuncData} {ps : List Str} (hb : KwB X.K fd ps ks g) (h : DenA z tk wk) : Den z (tCallW (spP np sp) ks.length g E0 tk) (wCallW ks.length g np sp wk) := fun B σ H F en s P Q hw kk =>
  h B σ H F en s _ _ hw fun vs H1 F1 ds n1 g1 s1 r1 q1 => by
    have r2 := hb.rpa r1
    refine ⟨by rw [r1.length]; exact q1.1, by rw [r2.length]; exact q1.2.1, F1, _, _, g1.sub, r2, q1.2.2, fun v H2 F2 d g2 rv q2 => ?_⟩
    exact kk v H2 F2 d n1 (g1.trans g2.weak) (s1.ex g2.ex) rv q2
theorem je_kw {x : Str} {sp : PSp} (D : DefPK X.prog X.w X.K X.mg X.base j x np sp ks g) (hr : Room k X.A) (ha : JK z X kws tk wk) (hk : j ≤ k := by first | decide | omega) (hg : Gl X x := by rfl)
    (hall : (backToKw pos (keywordEach kws X.env)).all (·.1.isSome) = true := by rfl) (hks : (backToKw pos (keywordEach kws X.env)).filterMap (·.1) = ks := by rfl)
    (hdb : (x == ("__debug__" : Str)) = false := by decide) (hpl : ((backTo pos (starEach [] X.env)).any (·.1) || (backToKw pos (keywordEach kws X.env)).any (·.1.isNone)) = false := by rfl) :
    JE z X (.Call (.Name x p) [] kws pos) (tCallW (spP np sp) ks.length g E0 tk) (wCallW ks.length g np sp wk) := by
  obtain ⟨f, fd, ps, F, hm, hkp, hb, hkw⟩ := D.ex
  exact ⟨pe_callW F (hr.mono hk) hg hm hkp hkw pass0 ha.pk hall hks hdb hpl, den_callW (f := f) hkw ha.de⟩
/-! ### a list of the def's own, read -/
@[simp] def wTupOwn (i : Nat) : WE := fun en P => ∃ ds, en.s[i]? = some (.own ds) ∧ P (.tuple ds) en.n
theorem je_tupOwn {x : Str} {p0 : Pos} (i : Nat) (hg : Gl X "tuple") (hm : X.mg "tuple" = none) (hN : X.N[i]? = some x := by rfl) (hv : Vis X.env.scope x := by first | exact Or.inl rfl | exact Or.inr (Or.inl rfl) | exact Or.inr (Or.inr rfl)) (hd : (x == ("__debug__" : Str)) = false := by decide)
    (hcd : (x == ("__classdict__" : Str)) = false := by decide) (he : starEach [.Name x p0] X.env = (false, eval (.Name x p0) X.env) :: starEach [] X.env := by rfl) (hpl : (backTo pos (starEach [] X.env)).any (·.1) = false := by rfl) :
    JE z X (.Call (.Name "tuple" p) [.Name x p0] [] pos) (tCB (kC rTupOf) (tCons (tVar i) tNil)) (wTupOwn i) where
  pe := pe_callTy (kC_ok (r := rTupOf) call_tuple_of) hg hm (by decide +kernel) (pa_cons (pv i hN hv hd hcd) pa_nil he) (by decide) (by decide) he hpl
  de := fun B σ H F en s P Q hw k => by
    obtain ⟨ds, h1, q⟩ := hw
    obtain ⟨l, xs, e1, e2, e3, e4, e5, e6⟩ := s.own h1
    refine ⟨.ref l, e1, ?_⟩
    intro K
    refine ⟨l, xs, rfl, .inl ⟨SqL.of e4, fun p hp => ?_⟩⟩
    have hf : F p = none := none_of_sub s.sub hp
    exact k _ _ _ _ en.n (Grow.laid s.sub hp) (s.stm.new hp) (.tup upd_same (e5.mono (ex_upd hf))) q
/-- own[i] -/
@[simp] def wIxOwn (i : Nat) (wi : WE) : WE := fun en P => ∃ ds, en.s[i]? = some (.own ds) ∧ wi en fun ix n => ∃ j r, ix = .int j ∧ L2.atI ds j = some r ∧ P r n
theorem je_ixOwn {x : Str} {p0 : Pos} {b : Expr} {tb : TE} {wb : WE} (i : Nat) (hb : JE z X b tb wb) (hN : X.N[i]? = some x := by rfl) (hv : Vis X.env.scope x := by first | exact Or.inl rfl | exact Or.inr (Or.inl rfl) | exact Or.inr (Or.inr rfl)) (hd : (x == ("__debug__" : Str)) = false := by decide)
    (hcd : (x == ("__classdict__" : Str)) = false := by decide) (hs : PlainIx b := by exact fun _ _ => rfl) : JE z X (.Subscript (.Name x p0) b pos) (tOp (kR rIx) (tVar i) tb) (wIxOwn i wb) where
  pe := pe_ix (kI_ok ix_seq) (pv i hN hv hd hcd) hb.pe hs
  de := fun B σ H F en s P Q hw k => by
    obtain ⟨ds, h1, hw⟩ := hw
    obtain ⟨l, xs, e1, e2, e3, e4, e5, e6⟩ := s.own h1
    refine ⟨.ref l, e1, ?_⟩
    refine hb.de B σ H F en s _ _ hw fun u H1 F1 ix n1 g1 s1 r1 q1 => ?_
    obtain ⟨j, r, rfl, h2, q⟩ := q1
    cases r1
    obtain ⟨v, h5, h6⟩ := (e5.mono g1.ext).atI h2
    intro K
    exact .inl ⟨l, xs, j, v, rfl, rfl, SqL.of (g1.keep l _ e3 e4), h5, k v H1 F1 r n1 g1 s1 h6 q⟩
end
end DD
/-! The Deep layer, exceptions: error classes of one field, raise, defs that raise, calls that raise. -/
namespace DD
open PySem PySem.Spec PyProof.Rows L2
open Evl (Ex)
/-! ### an error class with one field -/
def spErr (C : Addr) (fld : Str) : Sp := fun vs H Q _ => ∃ a v, vs = [.ref a, v] ∧ H a = some (exo a C none) ∧ ∀ dx, H dx = none → dx ≠ a → Q .non (L2.upd (L2.upd H dx (exd dx [(fld, v)])) a (exo a C (some dx)))
structure ErrC (P : Program) (w : World) (K : PySem.W.Frag) (mg : Str → Option Value) (base : Heap) (x fld : Str) (C : Addr) : Prop where
  T : OexC K C
  g : mg x = some (.ref C)
  xf : XfC K C
  no : PySem.W.findIn K (.ref C) fld = some none
  init : ∃ fI fd, PySem.W.findIn K (.ref C) "__init__" = some (some (.ref fI)) ∧ PySem.W.typeIn K (.ref fI) = some (.type "function") ∧ FnOk P w K mg base CX0 1 fI fd ["self", fld] (spErr C fld) ∧ Binds K fd ["self", fld] []
section
variable {P : Program} {w : World} {K : PySem.W.Frag} {mg : Str → Option Value} {base : Heap}
/-- its __init__: self.f = f -/
theorem init_ok {qual fld : Str} {st : Stmt} {f C : Addr} {fd : FuncData} {p1 p2 p3 p4 : Pos} (F : Fun K "__init__" qual st f fd) (S : FnScope ["self", fld] ["self", fld] (defScope st)) (hb : defBody st = [.Assign [.Attribute (.Name "self" p1) fld p2] (.Name fld p3) p4]) (T : OexC K C) (no : PySem.W.findIn K (.ref C) fld = some none)
    (hv : (defScope st).names.lookup fld = some NameKind.local := by rfl) (hvs : (defScope st).names.lookup ("self" : Str) = some NameKind.local := by rfl) (hd : (fld == ("__debug__" : Str)) = false := by decide) (hcd : (fld == ("__classdict__" : Str)) = false := by decide) :
    FnOk P w K mg base CX0 1 f fd ["self", fld] (spErr C fld) := by
  refine F.ok S (fun vs H Q E h => ?_) (fun cdv A outer s H vs Q E hr h => ?_)
  · obtain ⟨a, v, rfl, _⟩ := h
    rfl
  · obtain ⟨a, v, rfl, ha, k⟩ := h
    rw [hb]
    refine ⟨_, pss_one (ps_ost (pe_var (i := 0) rfl (Or.inl hvs) (by decide) (by decide)) (pe_var (i := 1) rfl (Or.inl hv) hd hcd)), ?_⟩
    exact ⟨v, rfl, .ref a, rfl, a, C, rfl, T, no, .inl ⟨ha, fun dx h1 h2 => k dx h1 h2⟩⟩
end
/-! ### raise C(x) -/
def tRaise1 (C : Addr) (fld : Str) (W : XK) (te : TE) : TS := fun _ σ H => te σ H fun v H1 => ∀ dx, H1 dx = none → W (.ref C) (some dx) (L2.upd H1 dx (.xd [(fld, v)]))
section
variable {z : Zn} {X : Cx} {e : Expr} {te : TE} {pos p p0 p1 : Pos} {k : Nat} {x fld : Str} {C : Addr}
/-- a reading, closed upwards -/
def tUp (t : TE) : TE := fun σ H Q => ∃ Q0, t σ H Q0 ∧ ∀ v H', Q0 v H' → Q v H'
theorem pe_up {t : TE} (h : PE X e t) : PE X e (tUp t) := ⟨fun pins s σ H Q I hw => by
  obtain ⟨Q0, h1, h2⟩ := hw
  exact thn (h.run pins s σ H Q0 I h1) fun u s1 ⟨v, H', I', r, q⟩ => ⟨v, H', I', r, h2 v H' q⟩⟩
theorem ps_raise1 (R : ErrC X.prog X.w X.K X.mg X.base x fld C) (hr : Room (k + 2) X.A) {W : XK} (tk : Takes X (fun cls d _ H => W cls d H)) (he : PE X e te) (hc : X.calm = true := by rfl) (hg : Gl X x := by rfl)
    (hdb : (x == ("__debug__" : Str)) = false := by decide) (hst : starEach (e :: []) X.env = (false, eval e X.env) :: starEach [] X.env := by rfl) (hpl : (backTo pos (starEach [] X.env)).any (·.1) = false := by rfl) :
    PS X (.Raise (some (.Call (.Name x p) [e] [] pos)) none p1) (tRaise1 C fld W te) := by
  obtain ⟨fI, fd, i1, i2, F1, hb⟩ := R.init
  have h := ps_raise (pos := p1) hc tk (pmk_oex (p := p) (pos := pos) (dvs := []) R.T i1 i2 F1 (hr.mono (by omega)) hb .nil pass0 hg R.g (pa_cons (pe_up he) pa_nil hst) hdb hst hpl)
  refine ⟨fun pins s σ H D I q => h.run pins s σ H D I ?_⟩
  have key : ∀ v H1, (∀ dx, H1 dx = none → W (.ref C) (some dx) (L2.upd H1 dx (.xd [(fld, v)]))) → ∀ a, H1 a = none → spErr C fld (.ref a :: ([v] ++ [])) (L2.upd H1 a (exo a C none))
      (fun u H2 => u = .non ∧ ∃ (d : Addr) (fs : List (Str × V)), H2 a = some (exo a C (some d)) ∧ H2 d = some (exd d fs) ∧ H1 d = none ∧ W (.ref C) (some d) (L2.upd (L2.del H2 a) d (.xd fs))) (fun _ _ _ => False) := fun v H1 hw a ha => by
    refine ⟨a, v, rfl, upd_same, fun dx h1 h2 => ⟨rfl, dx, _, upd_same, by rw [upd_ne h2, upd_same], by rwa [upd_ne h2] at h1, ?_⟩⟩
    have e : L2.upd (L2.del (L2.upd (L2.upd (L2.upd H1 a (exo a C none)) dx (exd dx [(fld, v)])) a (exo a C (some dx))) a) dx (.xd [(fld, v)]) = L2.upd H1 dx (.xd [(fld, v)]) := by
      funext b
      by_cases hb1 : b = dx
      · rw [hb1, upd_same, upd_same]
      · rw [upd_ne hb1, upd_ne hb1]
        by_cases hb2 : b = a
        · rw [hb2, L2.del_same, ha]
        · rw [L2.del_ne hb2, upd_ne hb2, upd_ne hb1, upd_ne hb2]
    rw [e]
    exact hw dx (by rwa [upd_ne h2] at h1)
  exact ⟨_, q, fun v H1 hw => ⟨(by show 1 ≤ 1000; decide), fun a ha => key v H1 hw a ha⟩⟩
/-- raise C(x), x a name -/
@[simp] def wRaise (i : Nat) (C : Addr) (fld : Str) : WS := fun P en => ∃ u d, en.s[i]? = some u ∧ u.dat = some d ∧ ∀ v, (∀ v' d', u = .vat v' d' → v = v') → P.xx (.ref C) fld v d
theorem den_raise {i : Nat} : DenS z (tRaise1 C fld z.W (tVar i)) (wRaise i C fld) := fun B F0 σ H F en D P s g hw k => by
  obtain ⟨u, d, h1, h2, h3⟩ := hw
  obtain ⟨o, e1, e2⟩ := s.slot i u h1
  obtain ⟨v, ev, r, hv⟩ : ∃ v, o = some v ∧ Rp F v d ∧ (∀ v' d', u = .vat v' d' → v = v') := by
    cases u with
    | val d' => cases h2; obtain ⟨v, q1, q2⟩ := e2; exact ⟨v, q1, q2, fun _ _ q => nomatch q⟩
    | vat v' d' => cases h2; exact ⟨v', e2.1, e2.2, fun _ _ q => by cases q; rfl⟩
    | _ => cases h2
  subst ev
  exact ⟨v, e1, fun dx hd => k.xx _ v d fld dx _ F (g.trans (Grow.fresh s.sub hd)) upd_same r (h3 v hv)⟩
theorem js_raise {y : Str} (i : Nat) (R : ErrC X.prog X.w X.K X.mg X.base x fld C) (hr : Room (k + 2) X.A) (tk : Takes X (fun cls d _ H => z.W cls d H)) (hc : X.calm = true := by rfl) (hg : Gl X x := by rfl)
    (hN : X.N[i]? = some y := by rfl) (hv : Vis X.env.scope y := by first | exact Or.inl rfl | exact Or.inr (Or.inl rfl) | exact Or.inr (Or.inr rfl)) (hd : (y == ("__debug__" : Str)) = false := by decide) (hcd : (y == ("__classdict__" : Str)) = false := by decide)
    (hdb : (x == ("__debug__" : Str)) = false := by decide) (hst : starEach (.Name y p0 :: []) X.env = (false, eval (.Name y p0) X.env) :: starEach [] X.env := by rfl) (hpl : (backTo pos (starEach [] X.env)).any (·.1) = false := by rfl) :
    JS z X (.Raise (some (.Call (.Name x p) [.Name y p0] [] pos)) none p1) (tRaise1 C fld z.W (tVar i)) (wRaise i C fld) := ⟨ps_raise1 R hr tk (pe_var hN hv hd hcd) hc hg hdb hst hpl, den_raise⟩
/-- a raise that no way reaches -/
@[simp] def wNever : WS := fun _ _ => False
theorem js_never {st : Stmt} : JS z X st (fun _ _ _ => False) wNever := ⟨⟨fun _ _ _ _ _ _ h => h.elim⟩, fun _ _ _ _ _ _ _ _ _ _ hw _ => hw.elim⟩
end
/-! ### promises with two ways out -/
abbrev XSp := List V → List PyData → (PyData → Prop) → (Value → Str → V → PyData → Prop) → Prop
/-- ends: what comes back, what is raised -/
structure Outs (z : Zn) (F H : Hp) (P : PyData → Prop) (PX : Value → Str → V → PyData → Prop) (Q : VK) (E : XK) : Prop where
  rt : ∀ v H' F' d, Grow z F H F' H' → LamX.Tabs z.T H' → Rp F' v d → P d → Q v H'
  xx : ∀ cls v d f dx H' F', Grow z F H F' H' → H' dx = some (.xd [(f, v)]) → Rp F' v d → PX cls f v d → E cls (some dx) H'
def spX (np : Nat) (sp : XSp) : Sp := fun vs H Q E => vs.length = np ∧ ∃ F ds P PX, Ex F H ∧ RpA F vs ds ∧ sp vs ds P PX ∧ Outs z0 F H P PX Q E
def zX (E : XK) : Zn := ⟨none, [], E⟩
structure DefX (P : Program) (w : World) (K : PySem.W.Frag) (mg : Str → Option Value) (base : Heap) (k : Nat) (x : Str) (np : Nat) (sp : XSp) : Prop where
  ex : ∃ f fd ps, FnOk P w K mg base (L2.CX P w) k f fd ps (spX np sp) ∧ mg x = some (.ref f) ∧ PySem.W.keepIn K (.ref f) = true ∧ Binds K fd ps []
/-- .. with its text known: it may be called by names, too -/
structure DefXS (P : Program) (w : World) (K : PySem.W.Frag) (mg : Str → Option Value) (base : Heap) (k : Nat) (x : Str) (st : Stmt) (ps : List Str) (sp : XSp) : Prop where
  ex : ∃ f fd, Fun K x x st f fd ∧ FnOk P w K mg base (L2.CX P w) k f fd ps (spX ps.length sp) ∧ mg x = some (.ref f) ∧ PySem.W.keepIn K (.ref f) = true ∧ Binds K fd ps []
/-- the slots at the entry, the very values known -/
def startV (N : List Str) (vs : List V) (ds : List PyData) : En := ⟨List.zipWith S.vat vs ds ++ List.replicate (N.length - ds.length) .no, 0⟩
theorem zipVat_get : ∀ {vs : List V} {ds : List PyData} {F : Hp}, RpA F vs ds → ∀ (i : Nat) (s : S), (List.zipWith S.vat vs ds)[i]? = some s → ∃ v d, vs[i]? = some v ∧ s = .vat v d ∧ Rp F v d
  | _, _, _, .nil, i, s, h => by simp at h
  | _, _, _, .cons r t, 0, s, h => by simp at h; subst h; exact ⟨_, _, rfl, rfl, r⟩
  | _, _, _, .cons r t, i + 1, s, h => by
    obtain ⟨v, d, h1, h2, h3⟩ := zipVat_get t i s (by simpa using h)
    exact ⟨v, d, by simpa using h1, h2, h3⟩
theorem sit_vats {z : Zn} {B H F : Hp} {N : List Str} {vs : List V} {ds : List PyData} (r : RpA F vs ds) (s : Stm z 0 H) (o : ∀ b, Zv z b → F b = none) (e : Ex F H) : Sit z B (L2.start N vs) H F (startV N vs ds) where
  sub := e
  stm := s
  off := o
  len := by
    have := r.length
    simp [L2.start, startV, this]
  slot := fun i x h => by
    have h : (List.zipWith S.vat vs ds ++ List.replicate (N.length - ds.length) .no)[i]? = some x := h
    have hl : (List.zipWith S.vat vs ds).length = ds.length := by simp [r.length]
    by_cases hi : i < ds.length
    · rw [List.getElem?_append_left (by rw [hl]; exact hi)] at h
      obtain ⟨v, d, h1, h2, h3⟩ := zipVat_get r i x h
      subst h2
      refine ⟨some v, ?_, rfl, h3⟩
      unfold L2.start
      rw [List.getElem?_append_left (by rw [List.length_map, r.length]; exact hi), List.getElem?_map, h1]
      rfl
    · rw [List.getElem?_append_right (by rw [hl]; omega), List.getElem?_replicate] at h
      split at h
      · rename_i hlt
        cases h
        refine ⟨none, ?_, trivial⟩
        unfold L2.start
        rw [List.getElem?_append_right (by rw [List.length_map, r.length]; omega), List.getElem?_replicate, List.length_map, r.length]
        rw [hl] at hlt
        rw [if_pos hlt]
      · cases h
  sep := fun i j es fs l _ h _ oe => by
    have h : (List.zipWith S.vat vs ds ++ List.replicate (N.length - ds.length) .no)[i]? = some es := h
    have hl : (List.zipWith S.vat vs ds).length = ds.length := by simp [r.length]
    by_cases hi : i < ds.length
    · rw [List.getElem?_append_left (by rw [hl]; exact hi)] at h
      obtain ⟨v, d, _, h2, _⟩ := zipVat_get r i es h
      subst h2
      exact absurd oe Bool.false_ne_true
    · rw [List.getElem?_append_right (by rw [hl]; omega), List.getElem?_replicate] at h
      split at h <;> cases h
      exact absurd oe Bool.false_ne_true
section
variable {P : Program} {w : World} {K : PySem.W.Frag} {mg : Str → Option Value} {base : Heap} {x : Str} {st : Stmt} {N ps : List Str} {k : Nat}
/-- THE RULE for a def that may raise -/
theorem DefT.px {sp : XSp} (D : DefT K mg x st ps) (N : List Str) (S : FnScope N ps (defScope st))
    (hbody : ∀ (f : Addr) (cdv : Value) (A : Around) (outer : List Env) (s : Shared) (H : Hp) (E : XK), Room k (A.deeper (envOfC x (defScope st) s.heap.objs.size f cdv)) → Takes (cxOf (L2.CX P w) P w K mg base N x (defScope st) f cdv A outer s H E) (fun cls d _ H => (zX E).W cls d H) →
      ∀ vs ds R RX, vs.length = ps.length → ds.length = ps.length → sp vs ds R RX →
      ∃ t wb, JSs (zX E) (cxOf (L2.CX P w) P w K mg base N x (defScope st) f cdv A outer s H E) (defBody st) t wb ∧ wb { nx := fun _ => R .none, rt := fun d _ => R d, xx := RX } (startV N vs ds)) :
    DefXS P w K mg base (k + 1) x st ps sp := by
  obtain ⟨f, fd, F, hm, hb⟩ := D.ex
  refine ⟨f, fd, F, ?_, hm, F.kp, hb⟩
  obtain ⟨oc, od, kV, doc, pm, an, cdv, ct, osl, rfl, lk, hcd⟩ := F.ex
  refine fn_of lk hcd S (fun vs H Q E h => h.1) fun A outer s H vs Q E hr h => ?_
  obtain ⟨hl, F0, ds, R, RX, e, r, q, kk⟩ := h
  obtain ⟨t, wb, J, hwb⟩ := hbody f cdv A outer s H E hr (takes_of rfl rfl rfl rfl) vs ds R RX hl (by rw [← r.length]; exact hl) q
  refine ⟨t, J.ps, ?_⟩
  have hs : Sit (zX E) H (L2.start N vs) H F0 (startV N vs ds) := sit_vats r ⟨trivial, fun _ q => nomatch q⟩ (fun _ q => q.elim (fun h => h.elim) fun ⟨_, h⟩ => nomatch h) e
  have wk : ∀ {F' H' : Hp}, Grow (zX E) F0 H F' H' → Grow z0 F0 H F' H' := fun g => g.widen fun c h => h
  exact J.de H F0 (L2.start N vs) H F0 _ _ _ hs (Grow.refl e) hwb ⟨fun σ' H' F' en' s' g' q' => kk.rt .non H' F' .none (wk g') (fun _ q => nomatch q) .non q', fun v H' F' d n g' _ r' q' => kk.rt v H' F' d (wk g') (fun _ q => nomatch q) r' q',
    fun _ _ _ _ _ _ q => q.elim, fun _ _ _ _ _ _ q => q.elim, fun cls v d f dx H' F' g' hd r' q' => kk.xx cls v d f dx H' F' (wk g') hd r' q'⟩
theorem DefXS.dx {sp : XSp} (D : DefXS P w K mg base k x st ps sp) : DefX P w K mg base k x ps.length sp := by
  obtain ⟨f, fd, _, F, h1, h2, h3⟩ := D.ex
  exact ⟨f, fd, ps, F, h1, h2, h3⟩
theorem DefXS.mono {j : Nat} {sp : XSp} (D : DefXS P w K mg base j x st ps sp) (h : j ≤ k) : DefXS P w K mg base k x st ps sp := by
  obtain ⟨f, fd, G, F, r⟩ := D.ex
  exact ⟨f, fd, G, F.mono h, r⟩
theorem DefX.imp {np : Nat} {sp sp' : XSp} (D : DefX P w K mg base k x np sp) (h : ∀ vs ds R RX, ds.length = np → sp' vs ds R RX → sp vs ds R RX) : DefX P w K mg base k x np sp' := by
  obtain ⟨f, fd, ps, F, r⟩ := D.ex
  exact ⟨f, fd, ps, F.imp fun vs H Q E ⟨hl, F0, ds, R, RX, e, ra, q, kk⟩ => ⟨hl, F0, ds, R, RX, e, ra, h vs ds R RX (by rw [← ra.length]; exact hl) q, kk⟩, r⟩
theorem DefX.mono {np j : Nat} {sp : XSp} (D : DefX P w K mg base j x np sp) (h : j ≤ k) : DefX P w K mg base k x np sp := by
  obtain ⟨f, fd, ps, F, r⟩ := D.ex
  exact ⟨f, fd, ps, F.mono h, r⟩
end
end DD
/-! The Deep layer, exceptions 2: expressions that certainly raise; calls of defs that may raise. -/
namespace DD
open PySem PySem.Spec PyProof.Rows L2
open Evl (Ex)
abbrev WX1 := En → (Value → Str → V → PyData → Prop) → Prop
def DenX (z : Zn) (t : TE) (w : WX1) : Prop := ∀ (B : Hp) (σ : L2.St) (H F : Hp) (en : En), Sit z B σ H F en → ∀ (PX : Value → Str → V → PyData → Prop) (Q : VK), w en PX →
  (∀ cls v d f dx H' F', Grow z F H F' H' → H' dx = some (.xd [(f, v)]) → Rp F' v d → PX cls f v d → z.W cls (some dx) H') → t σ H Q
structure JX (z : Zn) (X : Cx) (e : Expr) (t : TE) (w : WX1) : Prop where
  pe : PE X e t
  de : DenX z t w
/-- arguments, of which some are plain names -/
def DenAx (z : Zn) (t : TA) (w : WA) (ex : List (Option Nat)) : Prop := ∀ (B : Hp) (σ : L2.St) (H F : Hp) (en : En), Sit z B σ H F en → ∀ (P : List PyData → Nat → Prop) (Q : List V → Hp → Prop), w en P →
  (∀ vs H' F' ds n, Grow z F H F' H' → Stm z n H' → RpA F' vs ds → (∀ (k j : Nat) (v : V), ex[k]? = some (some j) → σ[j]? = some (some v) → vs[k]? = some v) → P ds n → Q vs H') → t σ H Q
structure JAx (z : Zn) (X : Cx) (es : List Expr) (t : TA) (w : WA) (ex : List (Option Nat)) : Prop where
  pa : PA X es t
  de : DenAx z t w ex
section
variable {z : Zn} {X : Cx} {e a b : Expr} {es : List Expr} {t te tb : TE} {ta tr : TA} {wa wr : WA} {we : WE} {wx : WX1} {pos p p0 : Pos} {k j np : Nat} {ex : List (Option Nat)}
theorem jax_nil : JAx z X [] tNil wNil [] := ⟨pa_nil, fun B σ H F en s P Q hw k => k [] H F [] en.n (Grow.refl s.sub) s.stm .nil (fun _ _ _ h => by simp at h) hw⟩
theorem jax_cons (h : JE z X e te we) (hr : JAx z X es tr wr ex) (hs : starEach (e :: es) X.env = (false, eval e X.env) :: starEach es X.env := by rfl) : JAx z X (e :: es) (tCons te tr) (wCons we wr) (none :: ex) where
  pa := pa_cons h.pe hr.pa hs
  de := fun B σ H F en s P Q hw kk => by
    refine h.de B σ H F en s _ _ hw fun v H1 F1 d n1 g1 s1 r1 q1 => ?_
    refine hr.de B σ H1 F1 _ (s.grow g1 s1) _ _ q1 fun vs H2 F2 ds n2 g2 s2 r2 x2 q2 => ?_
    refine kk _ H2 F2 _ n2 (g1.trans g2) s2 (.cons (r1.mono g2.ext) r2) (fun k j u h1 h2 => ?_) q2
    cases k with
    | zero => simp at h1
    | succ k => simpa using x2 k j u (by simpa using h1) h2
theorem jax_var {y : Str} (i : Nat) (hr : JAx z X es tr wr ex) (hN : X.N[i]? = some y := by rfl) (hv : Vis X.env.scope y := by first | exact Or.inl rfl | exact Or.inr (Or.inl rfl) | exact Or.inr (Or.inr rfl)) (hd : (y == ("__debug__" : Str)) = false := by decide)
    (hcd : (y == ("__classdict__" : Str)) = false := by decide) (hs : starEach (.Name y p :: es) X.env = (false, eval (.Name y p) X.env) :: starEach es X.env := by rfl) : JAx z X (.Name y p :: es) (tCons (tVar i) tr) (wCons (wVar i) wr) (some i :: ex) where
  pa := pa_cons (pe_var hN hv hd hcd) hr.pa hs
  de := fun B σ H F en s P Q hw kk => by
    obtain ⟨u, d, h1, hd', h2⟩ := hw
    obtain ⟨o, e1, v, rfl, r1⟩ := s.datV h1 hd'
    refine ⟨v, e1, ?_⟩
    refine hr.de B σ H F _ s _ _ h2 fun vs H2 F2 ds n2 g2 s2 r2 x2 q2 => ?_
    refine kk _ H2 F2 _ n2 g2 s2 (.cons (r1.mono g2.ext) r2) (fun k j u h3 h4 => ?_) q2
    cases k with
    | zero =>
      simp at h3
      subst h3
      rw [e1] at h4
      cases h4
      rfl
    | succ k => simpa using x2 k j u (by simpa using h3) h4
/-- a call that certainly raises -/
@[simp] def wCallX (np : Nat) (sp : XSp) (wa : WA) (ex : List (Option Nat)) : WX1 := fun en PX => wa en fun ds _ => ds.length = np ∧ ∀ vs, vs.length = np → (∀ (k j : Nat) (v : V) (d : PyData), ex[k]? = some (some j) → en.s[j]? = some (.vat v d) → vs[k]? = some v) → sp vs ds (fun _ => False) PX
theorem den_callX {sp : XSp} (h : DenAx z ta wa ex) : DenX z (tCall (spX np sp) [] z.W ta) (wCallX np sp wa ex) := fun B σ H F en s PX Q hw kx =>
  h B σ H F en s _ _ hw fun vs H1 F1 ds n1 g1 s1 r1 x1 q1 => by
    rw [List.append_nil]
    have hl : vs.length = np := by rw [r1.length]; exact q1.1
    refine ⟨hl, F1, ds, _, PX, g1.sub, r1, q1.2 vs hl fun k j v d h1 h2 => ?_, ⟨fun _ _ _ _ _ _ _ q => q.elim, fun cls v d f dx H' F' g hd r q => kx cls v d f dx H' F' (g1.trans g.weak) hd r q⟩⟩
    obtain ⟨o, e1, e2⟩ := s.slot j _ h2
    obtain ⟨rfl, _⟩ := e2
    exact x1 k j v h1 e1
theorem jx_f {x : Str} {sp : XSp} (D : DefX X.prog X.w X.K X.mg X.base j x np sp) (hr : Room k X.A) (tk : Takes X (fun cls d _ H => z.W cls d H)) (ha : JAx z X (e :: es) ta wa ex) (hk : j ≤ k := by first | decide | omega) (hg : Gl X x := by rfl)
    (hdb : (x == ("__debug__" : Str)) = false := by decide) (he : starEach (e :: es) X.env = (false, eval e X.env) :: starEach es X.env := by rfl) (hpl : (backTo pos (starEach es X.env)).any (·.1) = false := by rfl) :
    JX z X (.Call (.Name x p) (e :: es) [] pos) (tCall (spX np sp) [] z.W ta) (wCallX np sp wa ex) := by
  obtain ⟨f, fd, ps, F, hm, hkp, hb⟩ := D.ex
  exact ⟨pe_call F (hr.mono hk) hg hm hkp hb .nil (passes_call tk fun _ _ _ _ h => h) ha.pa hdb he hpl, den_callX ha.de⟩
/-- a call of a def that may raise, and does not -/
@[simp] def wCallR (np : Nat) (sp : XSp) (wa : WA) : WE := fun en P => wa en fun ds n => ds.length = np ∧ ∀ vs, vs.length = np → sp vs ds (fun d => P d n) (fun _ _ _ _ => False)
theorem je_fx {x : Str} {sp : XSp} (D : DefX X.prog X.w X.K X.mg X.base j x np sp) (hr : Room k X.A) (ha : JA z X (e :: es) ta wa) (hk : j ≤ k := by first | decide | omega) (hg : Gl X x := by rfl)
    (hdb : (x == ("__debug__" : Str)) = false := by decide) (he : starEach (e :: es) X.env = (false, eval e X.env) :: starEach es X.env := by rfl) (hpl : (backTo pos (starEach es X.env)).any (·.1) = false := by rfl) :
    JE z X (.Call (.Name x p) (e :: es) [] pos) (tCall (spX np sp) [] E0 ta) (wCallR np sp wa) := by
  obtain ⟨f, fd, ps, F, hm, hkp, hb⟩ := D.ex
  refine ⟨pe_call F (hr.mono hk) hg hm hkp hb .nil (passes_call LamX.takes0 fun _ _ _ _ h => h.elim) ha.pa hdb he hpl, fun B σ H F en s P Q hw kk => ?_⟩
  refine ha.de B σ H F en s _ _ hw fun vs H1 F1 ds n1 g1 s1 r1 q1 => ?_
  rw [List.append_nil]
  have hl : vs.length = np := by rw [r1.length]; exact q1.1
  exact ⟨hl, F1, ds, _, _, g1.sub, r1, q1.2 vs hl, ⟨fun v H2 F2 d g2 _ rv q2 => kk v H2 F2 d n1 (g1.trans g2.weak) (s1.ex g2.ex) rv q2, fun _ _ _ _ _ _ _ _ _ _ q => q.elim⟩⟩
end
section
variable {z : Zn} {X : Cx} {e : Expr} {te : TE} {we : WX1} {st : Stmt} {rest : List Stmt} {t : TS} {w : WS} {pos p : Pos}
theorem js_retX (h : JX z X e te we) : JS z X (.Return (some e) pos) (tRet te) (fun P en => we en P.xx) := ⟨ps_ret h.pe, fun B F0 σ H F en D P s g hw k => h.de B σ H F en s _ _ hw fun cls v d f dx H' F' g' hd r q => k.xx cls v d f dx H' F' (g.trans g') hd r q⟩
theorem js_asgX {tg : Expr} {g : TG} {js : List Nat} {wg : En → PyData → (En → Prop) → Prop} (h : JX z X e te we) (hg : JG z X tg g js wg) (hs : swapsWithSole [tg] e pos.line X.env = pure false := by rfl) (hw : swappedStores [tg] e X.env = pure none := by rfl)
    (h1 : (assignEach [tg] X.env).map (·.2) = [assign tg X.env] := by rfl) : JS z X (.Assign [tg] e pos) (tAsg te g) (fun P en => we en P.xx) := ⟨ps_asg h.pe hg.pg hs hw h1, fun B F0 σ H F en D P s g hw k => h.de B σ H F en s _ _ hw fun cls v d f dx H' F' g' hd r q => k.xx cls v d f dx H' F' (g.trans g') hd r q⟩
theorem js_exprX (h : JX z X e te we) (hs : swapsWith e none pos.line X.env = pure false := by rfl) : JS z X (.Expr e pos) (tDrop te) (fun P en => we en P.xx) := ⟨ps_expr h.pe hs, fun B F0 σ H F en D P s g hw k => h.de B σ H F en s _ _ hw fun cls v d f dx H' F' g' hd r q => k.xx cls v d f dx H' F' (g.trans g') hd r q⟩
/-- a statement behind which nothing comes -/
def tStop (t : TS) : TS := fun D σ H => t { D with nx := fun _ _ => False } σ H
@[simp] def wStop (w : WS) : WS := fun P en => w { P with nx := fun _ => False } en
theorem pss_stop (h : PS X st t) : PSs X (st :: rest) (tStop t) := ⟨fun pins s σ H D I hw => wpAny_execs_cons (thn (h.run pins s σ H _ I hw) fun f s1 q => by
  cases f with
  | next => obtain ⟨_, _, _, q⟩ := q; exact q.elim
  | ret v => exact q
  | brk => exact q
  | cont => exact q)⟩
theorem jss_stop (h : JS z X st t w) : JSs z X (st :: rest) (tStop t) (wStop w) := ⟨pss_stop h.ps, fun B F0 σ H F en D P s g hw k => h.de B F0 σ H F en _ _ s g hw ⟨fun _ _ _ _ _ _ q => q.elim, k.rt, k.bk, k.ct, k.xx⟩⟩
end
end DD
/-! The Deep layer, exceptions 3: calls by names that raise, what stands around a raising call, a list times a number. -/
namespace DD
open PySem PySem.Spec PyProof.Rows L2
open Evl (Ex)
section
variable {z : Zn} {X : Cx} {e a b : Expr} {es : List Expr} {t te tb : TE} {ta tr tk : TA} {wa wr wk : WA} {we wb : WE} {wx : WX1} {pos p p0 kpos : Pos} {k j np : Nat} {x : Str} {st : Stmt} {ps ks : List Str} {kws : List Keyword} {sp : XSp}
theorem DefXS.kw (D : DefXS X.prog X.w X.K X.mg X.base j x st ps sp) (ks : List Str) (g : {α : Type} → List α → List α)
    (hb : ∀ (kV doc pm : Value) (an : Option Addr) (cdv ct : Value) (ws : List Value), ws.length = ks.length → bindArgs (PySem.W.fnOf x x (defArgs st) (defBody st) (defScope st) .none kV doc pm an cdv ct) ⟨[], ks.zip ws⟩ = pure (ps.zip (g ws)))
    (hl : ∀ {α : Type} (ws : List α), ws.length = ks.length → (g ws).length = ps.length) (hrel : ∀ {zs : List V} {ws : List Value}, Vals zs ws → Vals (g zs) (g ws)) (hra : ∀ {F : Hp} {zs : List V} {ds : List PyData}, RpA F zs ds → RpA F (g zs) (g ds)) :
    ∃ f fd, FnOk X.prog X.w X.K X.mg X.base (L2.CX X.prog X.w) j f fd ps (spX ps.length sp) ∧ X.mg x = some (.ref f) ∧ PySem.W.keepIn X.K (.ref f) = true ∧ KwB X.K fd ps ks g := by
  obtain ⟨f, fd, F, G, h1, h2, _⟩ := D.ex
  obtain ⟨oc, od, kV, doc, pm, an, cdv, ct, osl, rfl, lk, hcd⟩ := F.ex
  exact ⟨f, _, G, h1, h2, ⟨fun s ws _ _ hw => BindsTo.of_eq (hb kV doc pm an cdv ct ws hw), hl, hrel, hra⟩⟩
/-- a call by names that certainly raises -/
@[simp] def wCallXW (m : Nat) (g : {α : Type} → List α → List α) (np : Nat) (sp : XSp) (w : WA) : WX1 := fun en PX => w en fun ds _ => ds.length = m ∧ (g ds).length = np ∧ ∀ vs : List V, vs.length = np → sp vs (g ds) (fun _ => False) PX
theorem jx_kw {g : {α : Type} → List α → List α} (D : ∃ f fd, FnOk X.prog X.w X.K X.mg X.base (L2.CX X.prog X.w) j f fd ps (spX ps.length sp) ∧ X.mg x = some (.ref f) ∧ PySem.W.keepIn X.K (.ref f) = true ∧ KwB X.K fd ps ks g) (hr : Room k X.A) (tk' : Takes X (fun cls d _ H => z.W cls d H)) (ha : JK z X kws tk wk)
    (hk : j ≤ k := by first | decide | omega) (hg : Gl X x := by rfl) (hall : (backToKw pos (keywordEach kws X.env)).all (·.1.isSome) = true := by rfl) (hks : (backToKw pos (keywordEach kws X.env)).filterMap (·.1) = ks := by rfl)
    (hdb : (x == ("__debug__" : Str)) = false := by decide) (hpl : ((backTo pos (starEach [] X.env)).any (·.1) || (backToKw pos (keywordEach kws X.env)).any (·.1.isNone)) = false := by rfl) :
    JX z X (.Call (.Name x p) [] kws pos) (tCallW (spX ps.length sp) ks.length g z.W tk) (wCallXW ks.length g ps.length sp wk) := by
  obtain ⟨f, fd, F, hm, hkp, hkw⟩ := D
  refine ⟨pe_callW F (hr.mono hk) hg hm hkp hkw (passes_call tk' fun _ _ _ _ h => h) ha.pk hall hks hdb hpl, fun B σ H F0 en s PX Q hw kx => ?_⟩
  refine ha.de B σ H F0 en s _ _ hw fun vs H1 F1 ds n1 g1 s1 r1 q1 => ?_
  have r2 := hkw.rpa r1
  have hl : (g vs).length = ps.length := by rw [r2.length]; exact q1.2.1
  exact ⟨by rw [r1.length]; exact q1.1, hl, F1, _, _, PX, g1.sub, r2, q1.2.2 _ hl, ⟨fun _ _ _ _ _ _ _ q => q.elim, fun cls v d f dx H' F' g2 hd r q => kx cls v d f dx H' F' (g1.trans g2.weak) hd r q⟩⟩
/-- a def of which nothing is known: its call is never come to -/
theorem jx_arg1 {y : Str} {sq : PSp} (D : DefP X.prog X.w X.K X.mg X.base j y np sq) (hr : Room k X.A) (h : JX z X e te wx) (ha : JA z X es ta wa) (hk : j ≤ k := by first | decide | omega) (hg : Gl X y := by rfl)
    (hdb : (y == ("__debug__" : Str)) = false := by decide) (he : starEach (e :: es) X.env = (false, eval e X.env) :: starEach es X.env := by rfl) (hpl : (backTo pos (starEach es X.env)).any (·.1) = false := by rfl) :
    JX z X (.Call (.Name y p) (e :: es) [] pos) (tCall (spP np sq) [] E0 (tCons te ta)) wx := by
  obtain ⟨f, fd, ps, F, hm, hkp, hb⟩ := D.ex
  exact ⟨pe_call F (hr.mono hk) hg hm hkp hb .nil pass0 (pa_cons h.pe ha.pa he) hdb he hpl, fun B σ H F en s PX Q hw kx => h.de B σ H F en s PX _ hw kx⟩
theorem jx_notN {jj} (h : JX z X a te wx) : JX z X (.Compare a [.IsNot] [.Constant .none jj p] pos) (tNotN te) wx := ⟨pe_cmp (pc_notN h.pe) rfl, fun B σ H F en s PX Q hw kx => h.de B σ H F en s PX _ hw kx⟩
/-- xs * n: a fresh list -/
@[simp] def wRep (wa wb : WE) : WA := fun en P => wa en fun d n => wb ⟨en.s, n⟩ fun e n' => ∃ ds i, d = .list ds ∧ e = .int i ∧ 0 ≤ i ∧ i < 1000000 ∧ ds.length * i.toNat ≤ 100000 ∧ P (List.replicate i.toNat ds).flatten n'
theorem RpA.rep {F : Hp} {xs : List V} {ds : List PyData} (r : RpA F xs ds) : ∀ n : Nat, RpA F (List.replicate n xs).flatten (List.replicate n ds).flatten
  | 0 => .nil
  | n + 1 => by rw [List.replicate_succ, List.replicate_succ, List.flatten_cons, List.flatten_cons]; exact r.append (RpA.rep r n)
theorem jl_rep (ha : JE z X a te we) (hb : JE z X b tb wb) : JL z X (.BinOp a .Mult b pos) (tOp rRep te tb) (wRep we wb) where
  pe := pe_op op_rep ha.pe hb.pe
  de := fun B σ H F en s P Q hw k => by
    refine ha.de B σ H F en s _ _ hw fun v H1 F1 d n1 g1 s1 r1 q1 => ?_
    refine hb.de B σ H1 F1 _ (s.grow g1 s1) _ _ q1 fun u H2 F2 e n2 g2 s2 r2 q2 => ?_
    obtain ⟨ds, i, rfl, rfl, h1, h2, h3, q⟩ := q2
    have r1' := r1.mono g2.ext
    cases r1' with
    | lst e1 r =>
      cases r2
      refine ⟨_, i, _, rfl, rfl, g2.sub _ _ e1, by omega, by omega, by rw [r.length]; exact Evl.sz_of h3, fun p hp => ?_⟩
      exact k _ _ _ _ _ n2 ((g1.trans g2).trans (Grow.fresh g2.sub hp)) (s2.new hp) (g1.dom p (g2.dom p hp)) (none_of_sub g2.sub hp) upd_same (r.rep _) q
end
end DD
/-! Closures, 1: lambdas made and called; cells told or hidden. -/
namespace CL
open PySem PySem.Spec PyProof.Rows L2 LamX NdefX DD
open Evl (Ex)
/-- a lambda's words, the cells that it took, its code object -/
structure LF where
  q : Str
  params : Arguments
  body : Expr
  scope : Scope
  cl : List (Str × Addr)
  c : Addr
def LF.nf (F : LF) : NF := ⟨"<lambda>", F.q, F.params, [], F.scope, F.cl, F.c⟩
def LfO (f : Addr) (F : LF) : HO := .ext fun h => ∃ pm ctv : Value, h.get? f = some (PySem.W.kla_obj "<lambda>" F.q F.params F.body F.scope F.cl pm F.c ctv)
/-- the cell at c, as it is -/
def CellX (c : Addr) (o : Obj) : HO := .ext fun h => h.get? c = some o
section
variable {P : Program} {w : World} {H : Hp} {h : Heap} {f c : Addr} {F : LF} {o : Obj}
theorem lf_ok {pm ctv : Value} (e : h.get? f = some (PySem.W.kla_obj "<lambda>" F.q F.params F.body F.scope F.cl pm F.c ctv)) : ObjOk P w H h f (LfO f F) := ⟨⟨pm, ctv, e⟩, ⟨_, e⟩, fun h1 h2 ⟨a, b, z⟩ st => ⟨a, b, st _ z⟩⟩
theorem lf_at (hok : HOk P w H h) (e : H f = some (LfO f F)) : ∃ pm ctv : Value, h.get? f = some (PySem.W.kla_obj "<lambda>" F.q F.params F.body F.scope F.cl pm F.c ctv) := by
  have x : ObjOk P w H h f (LfO f F) := hok f _ e
  exact x.1
theorem cell_ok (e : h.get? c = some o) : ObjOk P w H h c (CellX c o) := ⟨e, ⟨_, e⟩, fun h1 h2 z st => st _ z⟩
theorem cell_at (hok : HOk P w H h) (e : H c = some (CellX c o)) : h.get? c = some o := by
  have x : ObjOk P w H h c (CellX c o) := hok c _ e
  exact x.1
end
section
variable {X : Cx} {pins : List (Addr × Obj)} {σ : L2.St} {H : Hp} {s : Shared}
/-- a lambda is made -/
theorem lam_new {T : List (Addr × Str)} {c P : Addr} {params : Arguments} {body : Expr} {scope : Scope} {pos : Pos} {E Q : Value → Shared → Prop} (I : Inv X pins σ H s) (TB : TabB X.base X.mg c P) (hcode : X.env.code = .ref c)
    (hm : (P, X.env.qual ++ "<lambda>") ∈ T) (hu : ∀ p ∈ T, p.1 = P → p.2 = X.env.qual ++ "<lambda>") (hT : Tabs T H) (hdef : defaultsOf params X.env = ([], [])) (hfree : ∀ y ∈ scope.names, y.2 = .free → ∃ c, X.env.cells.lookup y.1 = some c)
    (k : ∀ (f c' : Addr) (H1 : Hp) (s' : Shared), Inv X pins σ H1 s' → (∀ b o, b ≠ P → H b = some o → H1 b = some o) → (∀ b, H1 b = none → H b = none) → Tabs T H1 → H f = none → H1 f = some (LfO f ⟨X.env.qual ++ "<lambda>", params, body, scope, cloFrom X.env.cells scope.names [], c'⟩) → H1 c' = some (CodeO c' (X.env.qual ++ "<lambda>")) → Q (.ref f) s') :
    wpAny (model X.prog X.w) X.A (eval (.Lambda params body scope pos) X.env) Q E s := by
  obtain ⟨ps, hP, ht, ha⟩ := hT _ hm
  have bP := TB.bm.keeps I.bk
  have hP' : s.heap.get? P = some { cls := .none, data := .fields ps } := I.hok P _ hP
  refine PySem.W.kla_eval hdef ?_
  have fin : ∀ (H2 : Hp) (h' : Heap) (tk : Nat) (c' : Addr) (pm ctv : Value), Inv X pins σ H2 { s with heap := h', toks := tk } → (∀ b o, b ≠ P → H b = some o → H2 b = some o) → (∀ b, H2 b = none → H b = none) → Tabs T H2 → H2 c' = some (CodeO c' (X.env.qual ++ "<lambda>")) →
      Q (.ref h'.objs.size) { s with heap := h'.push (PySem.W.kla_obj "<lambda>" (X.env.qual ++ "<lambda>") params body scope (cloFrom X.env.cells scope.names []) pm c' ctv), toks := tk } := fun H2 h' tk c' pm ctv I2 k2 d2 t2 c2 => by
    have nF : H2 h'.objs.size = none := I2.hok.fresh (Nat.le_refl _)
    have e2 : ∀ b o, H2 b = some o → L2.upd H2 h'.objs.size (LfO h'.objs.size ⟨X.env.qual ++ "<lambda>", params, body, scope, cloFrom X.env.cells scope.names [], c'⟩) b = some o := fun b o e => by rw [upd_ne (ne_of_none e nF)]; exact e
    refine k h'.objs.size c' _ _ (I2.laid (a := h'.objs.size) (o := LfO h'.objs.size ⟨X.env.qual ++ "<lambda>", params, body, scope, cloFrom X.env.cells scope.names [], c'⟩) (t' := tk) (fun b u e => Heap.get?_push_of_some _ e) (Nat.le_refl _) (lf_ok (pm := pm) (ctv := ctv) (Heap.get?_push_size _ rfl)))
      (fun b o n e => e2 b o (k2 b o n e)) (fun b e => d2 b (upd_none e)) (t2.ext e2) (d2 _ nF) upd_same (e2 _ _ c2)
  cases hc : codeAmong pos ps.toList with
  | some cv =>
    obtain ⟨c', e, hco⟩ := ha pos cv hc
    subst e
    exact PySem.W.kla_makeFunctionHit (mg := X.mg) (c := c) (P := P) (ps := ps) (closure_ok hfree) I.ok.glob (I.mod.glob.keeps I.bk) hcode (TB.code.keeps I.bk) hP' ht hc bP fun ctv h' tk hx hsz => fin H h' tk c' _ ctv (I.kept hx) (fun _ _ _ e => e) (fun _ e => e) hT hco
  | none =>
    refine PySem.W.kla_makeFunction (mg := X.mg) (c := c) (P := P) (ps := ps) (closure_ok hfree) I.ok.glob (I.mod.glob.keeps I.bk) hcode (TB.code.keeps I.bk) hP' ht hc TB.gP bP fun c' ctv h' tk hx hge hlt hrec htb => ?_
    obtain ⟨c2, oc, vs, t, e2, hoc, hd, hv⟩ := hrec
    cases e2
    have nC : H c' = none := I.hok.fresh hge
    have ne : P ≠ c' := ne_of_none hP nC
    have kp : ∀ b o, b ≠ P → H b = some o → L2.upd (L2.upd H P (.tbl (ps ++ #[rawInt pos.line, rawInt pos.col, .ref c']))) c' (CodeO c' (X.env.qual ++ "<lambda>")) b = some o := fun b o n e => by
      rw [upd_ne (ne_of_none e nC), upd_ne n]; exact e
    refine fin _ h' tk c' _ ctv (inv_table (t' := tk) (more := #[rawInt pos.line, rawInt pos.col, .ref c']) (h' := h') I hP (fun b o hb e => hx b o hb e) htb hge ⟨oc, vs, t, hoc, hd, hv⟩) kp (fun b e => ?_) (fun p hp => ?_) upd_same
    · have e1 := upd_none e
      by_cases hb : b = P
      · rw [hb, upd_same] at e1; cases e1
      · rwa [upd_ne hb] at e1
    · by_cases hb : p.1 = P
      · rw [hu p hp hb, hb]
        refine ⟨ps ++ #[rawInt pos.line, rawInt pos.col, .ref c'], by rw [upd_ne ne, upd_same], ?_, fun p' cv hcv => ?_⟩
        · have eL : (ps ++ #[rawInt pos.line, rawInt pos.col, Value.ref c']).toList = ps.toList ++ [rawInt pos.line, rawInt pos.col, Value.ref c'] := by simp
          rw [eL]
          exact PySem.TriplesOk_snoc _ _ _ _ ht
        · have hcv' : codeAmong p' (ps.toList ++ [rawInt pos.line, rawInt pos.col, .ref c']) = some cv := by simpa using hcv
          rcases among_app _ ht hcv' with z | z
          · obtain ⟨c0, g1, g2⟩ := ha p' cv z
            refine ⟨c0, g1, kp _ _ (fun q => ?_) g2⟩
            rw [q, hP] at g2
            exact codeO_ne ps (Option.some.inj g2).symm
          · exact ⟨c', z, upd_same⟩
      · obtain ⟨ps', a1, a2, a3⟩ := hT p hp
        refine ⟨ps', kp _ _ hb a1, a2, fun p' cv hcv => ?_⟩
        obtain ⟨c0, g1, g2⟩ := a3 p' cv hcv
        refine ⟨c0, g1, kp _ _ (fun q => ?_) g2⟩
        rw [q, hP] at g2
        exact codeO_ne ps (Option.some.inj g2).symm
end
/-! ### a lambda runs -/
section
variable {CX : CXT} {P : Program} {w : World} {K : PySem.W.Frag} {mg : Str → Option Value} {base : Heap} {N ps fr : List Str} {F : LF} {f : Addr} {k : Nat} {A : Around} {outer : List Env} {s : Shared} {H : Hp} {Q : VK} {E : XK} {us : List Value} {vs : List V} {ws : List (Option V)}
theorem lam_go (S : NScope N ps fr F.scope) (hbd : ∀ (pm ctv : Value) (us : List Value), us.length = ps.length → bindArgs (PySem.W.kla_fn "<lambda>" F.q F.params F.body F.scope F.cl pm (.ref F.c) ctv) ⟨us, []⟩ = pure (ps.zip us))
    (hr : Room (k + 1) A) (e0 : Env0 P w K mg base A outer s H) (hf : H f = some (LfO f F)) (hc : H F.c = some (CodeO F.c F.q)) (C : CellsAt F.cl fr ws s.heap H) (r : Vals vs us) (hl : vs.length = ps.length)
    (hbody : Room k (A.deeper (envF F.nf f s.heap.objs.size)) → ∃ t, PE (ncx CX P w K mg base N F.nf f A outer s H E) F.body t ∧ t (startF N vs ws) H Q) :
    codeAny (model P w) A (.call (.ref f) ⟨us, []⟩) (CR CX outer P w H s Q E) s := by
  obtain ⟨pm, ctv, ho⟩ := lf_at e0.hok hf
  have lim : s.heap.NoLimit := e0.mod.nolimit.keeps fun b o e => (e0.bs b o e).1
  refine PySem.W.kla_callFunE hr.depth ho rfl S.co S.gen rfl (codeO_at e0.hok hc) ?_
  rw [hbd pm ctv us (by rw [← r.length]; exact hl)]
  refine wpAny_pure (wpAny_newFunctionEnv S.nocell (fun ⟨n, _⟩ hy => S.par n (List.of_mem_zip hy).1) (fun h₁ hns hsb => ⟨lim.fresh _ hsb, ?_⟩) S.kind)
  have kp : ∀ b o, s.heap.get? b = some o → h₁.get? b = some o := fun b o e => hsb.extBut b o (Nat.ne_of_lt (Heap.lt_size e)) (Heap.get?_push_of_some _ e)
  obtain ⟨t, ht, hq⟩ := hbody (hr.deeper _)
  have I : Inv (ncx CX P w K mg base N F.nf f A outer s H E) [] (startF N vs ws) H { s with heap := h₁, toks := s.toks + (ps.zip us).length } := inv_startN (F := F.nf) S hr.hd e0 hl r C hns kp
  refine PySem.W.kla_codeExpr (wpAny_mono (ht.run [] _ _ H Q I hq) (fun v s' hs => ?_) fun e s' hs => hs)
  obtain ⟨w', H', J, rv, q⟩ := hs
  exact ⟨w', H', J.os, J.bare, J.base, J.hok, rv, q⟩
end
/-! ### cells told, cells hidden -/
def off (H : Hp) (C : List Addr) : Hp := fun b => if b ∈ C then none else H b
def put (H G : Hp) (C : List Addr) : Hp := fun b => if b ∈ C then G b else H b
theorem off_in {H : Hp} {C : List Addr} {b : Addr} (h : b ∈ C) : off H C b = none := if_pos h
theorem off_out {H : Hp} {C : List Addr} {b : Addr} (h : b ∉ C) : off H C b = H b := if_neg h
theorem put_in {H G : Hp} {C : List Addr} {b : Addr} (h : b ∈ C) : put H G C b = G b := if_pos h
theorem put_out {H G : Hp} {C : List Addr} {b : Addr} (h : b ∉ C) : put H G C b = H b := if_neg h
section
variable {P : Program} {w : World} {K : PySem.W.Frag} {mg : Str → Option Value} {base : Heap} {A : Around} {outer : List Env} {s s' : Shared} {H H' : Hp} {h h' : Heap} {C : List Addr}
theorem hok_off (x : HOk P w H h) (hC : ∀ c ∈ C, ∃ o, H c = some (CellX c o)) : HOk P w (off H C) h := fun b o e => by
  by_cases hb : b ∈ C
  · rw [off_in hb] at e; cases e
  · rw [off_out hb] at e
    have nc : ∀ c u, H c = some u → (∀ o, u ≠ CellX c o) → c ∉ C := fun c u e1 e2 hc => by
      obtain ⟨o', e3⟩ := hC c hc
      rw [e1] at e3
      exact e2 o' (Option.some.inj e3)
    exact (x b o e).stay (fun _ _ _ q => q) (fun c q => by rw [off_out (nc c _ q fun o z => by unfold CellX at z; cases z)]; exact q) fun c xs q => by rw [off_out (nc c _ q fun o z => by unfold CellX at z; cases z)]; exact q
theorem env0_off (e : Env0 P w K mg base A outer s H) (hC : ∀ c ∈ C, ∃ o, H c = some (CellX c o)) : Env0 P w K mg base A outer s (off H C) where
  frames := e.frames
  mod := e.mod
  bs := fun b o q => ⟨(e.bs b o q).1, by
    by_cases hb : b ∈ C
    · exact off_in hb
    · rw [off_out hb]; exact (e.bs b o q).2⟩
  bsz := e.bsz
  funs := e.funs
  frf := fun b q => by
    by_cases hb : b ∈ C
    · exact off_in hb
    · rw [off_out hb]; exact e.frf b q
  hok := hok_off e.hok hC
  bare := e.bare
theorem hok_put (hok : HOk P w H' h') (hC : ∀ c ∈ C, ∃ o, H c = some (CellX c o) ∧ h'.get? c = some o) (hn : ∀ c ∈ C, H' c = none) : HOk P w (put H' H C) h' := fun b o e => by
  by_cases hb : b ∈ C
  · rw [put_in hb] at e
    obtain ⟨o', e1, e2⟩ := hC b hb
    rw [e1] at e
    cases e
    exact cell_ok e2
  · rw [put_out hb] at e
    have nc : ∀ c u, H' c = some u → c ∉ C := fun c u q hc => by rw [hn c hc] at q; cases q
    exact (hok b o e).stay (fun _ _ _ q => q) (fun c q => by rw [put_out (nc c _ q)]; exact q) fun c xs q => by rw [put_out (nc c _ q)]; exact q
/-- behind a call for which the cells were hidden -/
theorem cr_on {r : Result} {Q : VK} {E : XK} (e0 : Env0 P w K mg base A outer s H) (hC : ∀ c ∈ C, ∃ o, H c = some (CellX c o)) (c : CR (L2.CX P w) outer P w (off H C) s (fun v H' => (∀ c ∈ C, H' c = none) → Q v (put H' H C)) (fun cls d H' => (∀ c ∈ C, H' c = none) → E cls d (put H' H C)) r s') :
    CR (L2.CX P w) outer P w H s Q E r s' := by
  have hh : ∀ c ∈ C, ∃ o, H c = some (CellX c o) ∧ s.heap.get? c = some o ∧ c ∉ frs outer := fun c hc => by
    obtain ⟨o, e⟩ := hC c hc
    exact ⟨o, e, cell_at e0.hok e, fun q => by rw [e0.frf c q] at e; cases e⟩
  have nC : ∀ b, H b = none → b ∉ C := fun b e hb => by
    obtain ⟨o, q⟩ := hC b hb
    rw [e] at q; cases q
  have nK : ∀ b u, H b = some u → (∀ o, u ≠ CellX b o) → b ∉ C := fun b u e1 e2 hb => by
    obtain ⟨o', e3⟩ := hC b hb
    rw [e1] at e3
    exact e2 o' (Option.some.inj e3)
  cases r with
  | ok fl =>
    cases fl with
    | ret u =>
      obtain ⟨v, H', os, bare, un, hok, rv, q⟩ := c
      have cn : ∀ c ∈ C, H' c = none := fun c hc => by
        obtain ⟨o, _, e2, _⟩ := hh c hc
        exact un.free c o e2 (off_in hc) (by simp)
      refine ⟨v, put H' H C, os, bare, ⟨fun b o e n hb hx => un.keep b o e (by rw [off_out (nC b n)]; exact n) hb hx, fun b o e n hb hx => un.slot b o e (by rw [off_out (nC b n)]; exact n) hb hx, fun b o e n hx => ?_, un.there, fun b xs e => ?_, fun b o u e => ?_, fun b ps e => ?_⟩, hok_put hok (fun c hc => ?_) cn, rv, q cn⟩
      · rw [put_out (nC b n)]
        exact un.free b o e (by rw [off_out (nC b n)]; exact n) hx
      · have hb := nK b _ e fun o z => by unfold CellX at z; cases z
        rw [put_out hb]
        exact un.tups b xs (by rw [off_out hb]; exact e)
      · have hb := nK b _ e fun o z => by unfold CellX at z; cases z
        rw [put_out hb]
        exact un.frzs b o u (by rw [off_out hb]; exact e)
      · have hb := nK b _ e fun o z => by unfold CellX at z; cases z
        obtain ⟨m, z⟩ := un.tbls b ps (by rw [off_out hb]; exact e)
        exact ⟨m, by rw [put_out hb]; exact z⟩
      · obtain ⟨o, e1, e2, e3⟩ := hh c hc
        exact ⟨o, e1, un.keep c o e2 (off_in hc) e3 (by simp)⟩
    | next => exact c
    | brk => exact c
    | cont => exact c
  | error er =>
    obtain ⟨a, B, H', cls, d, rfl, fl, hok, ub, na, os, ag, q⟩ := c
    have cn : ∀ c ∈ C, H' c = none := fun c hc => by
      obtain ⟨o, _, e2, _⟩ := hh c hc
      exact ub.free c o e2 (off_in hc)
    refine ⟨a, B, put H' H C, cls, d, rfl, fl, hok_put hok (fun c hc => ?_) cn, ⟨fun b o e n hb => ub.keep b o e (by rw [off_out (nC b n)]; exact n) hb, ub.slot, fun b o e n => ?_, ub.there, fun b xs e => ?_, fun b o u e => ?_, fun b ps e => ?_⟩, ?_, os, ag, q cn⟩
    · obtain ⟨o, e1, e2, e3⟩ := hh c hc
      exact ⟨o, e1, ub.keep c o e2 (off_in hc) e3⟩
    · rw [put_out (nC b n)]
      exact ub.free b o e (by rw [off_out (nC b n)]; exact n)
    · have hb := nK b _ e fun o z => by unfold CellX at z; cases z
      rw [put_out hb]
      exact ub.tups b xs (by rw [off_out hb]; exact e)
    · have hb := nK b _ e fun o z => by unfold CellX at z; cases z
      rw [put_out hb]
      exact ub.frzs b o u (by rw [off_out hb]; exact e)
    · have hb := nK b _ e fun o z => by unfold CellX at z; cases z
      obtain ⟨m, z⟩ := ub.tbls b ps (by rw [off_out hb]; exact e)
      exact ⟨m, by rw [put_out hb]; exact z⟩
    · have ha : a ∉ C := fun hc => by
        obtain ⟨o, _, e2, e3⟩ := hh a hc
        have z := ub.keep a o e2 (off_in hc) e3
        obtain ⟨_, z2, _⟩ := fl
        rw [z] at z2; cases z2
      rw [put_out ha]
      exact na
end
end CL
/-! Closures, 2: what a closure is worth (Thunk); calls ahead of which cells are told. -/
namespace CL
open PySem PySem.Spec PyProof.Rows L2 LamX NdefX DD
open Evl (Ex)
def Dj (C : List Addr) (F : Hp) : Prop := ∀ c ∈ C, F c = none
/-- f, whose objects are D, its cells C, called with arguments, answers as ob says; Fc: what it took, frozen -/
structure Thunk (P : Program) (w : World) (K : PySem.W.Frag) (mg : Str → Option Value) (base : Heap) (k np : Nat) (D : Hp) (C : List Addr) (Fc : Hp) (f : Addr) (ob : XSp) : Prop where
  ext : ∀ b o, D b = some o → ∃ φ, o = .ext φ
  cells : ∀ c ∈ C, ∃ o, D c = some o
  fn : ∃ F : LF, D f = some (LfO f F)
  run : ∀ (A : Around) (outer : List Env) (s : Shared) (H F : Hp) (us : List Value) (vs : List V) (ds : List PyData) (R : PyData → Prop) (RX : Value → Str → V → PyData → Prop) (Q : VK) (E : XK),
    Room k A → Env0 P w K mg base A outer s H → Ex D H → Dj C F → Ex Fc F → Ex F H → Vals vs us → RpA F vs ds → vs.length = np → ob vs ds R RX → Outs z0 F H R RX Q E → codeAny (model P w) A (.call (.ref f) ⟨us, []⟩) (CR (L2.CX P w) outer P w H s Q E) s
theorem Dj.grow {z : Zn} {D : Hp} {C : List Addr} {F H F' H' : Hp} (h : Dj C F) (hc : ∀ c ∈ C, ∃ o, D c = some o) (e : Ex D H) (x : ∀ b o, D b = some o → ∃ φ, o = .ext φ) (hz : ∀ b o, D b = some o → ¬ Zv z b) (g : Grow z F H F' H') : Dj C F' ∧ Ex D H' := by
  refine ⟨fun c q => ?_, fun b o q => g.keep b o (hz b o q) (e b o q)⟩
  obtain ⟨o, ho⟩ := hc c q
  obtain ⟨φ, rfl⟩ := x c o ho
  exact g.apart (e c _ ho) (hz c _ ho) (fun _ z => nomatch z) (h c q)
theorem Stm.dj {z : Zn} {n : Nat} {D H : Hp} (s : Stm z n H) (e : Ex D H) (x : ∀ b o, D b = some o → ∃ φ, o = .ext φ) : ∀ b o, D b = some o → ¬ Zv z b := fun b o q hz => by
  obtain ⟨φ, rfl⟩ := x b o q
  have q1 := e b _ q
  rcases s.kind hz with ⟨_, q2⟩ | ⟨_, q2⟩ <;> rw [q1] at q2 <;> cases q2
theorem grow_put {z z' : Zn} {F H F' H' : Hp} {C : List Addr} (g : Grow z F (off H C) F' H') (hz : ∀ c, Zv z c → Zv z' c) (hC : ∀ c ∈ C, H' c = none) : Grow z' F H F' (put H' H C) where
  keep := fun b o n e => by
    by_cases hb : b ∈ C
    · rw [put_in hb]; exact e
    · rw [put_out hb]; exact g.keep b o (fun q => n (hz b q)) (by rw [off_out hb]; exact e)
  dom := fun b e => by
    by_cases hb : b ∈ C
    · rwa [put_in hb] at e
    · rw [put_out hb] at e
      have := g.dom b e
      rwa [off_out hb] at this
  ext := g.ext
  sub := fun b o e => by
    have e1 := g.sub b o e
    have hb : b ∉ C := fun q => by rw [hC b q] at e1; cases e1
    rw [put_out hb]
    exact e1
  new := fun b h1 h2 => by
    by_cases hb : b ∈ C
    · refine .inl ?_
      cases e : F' b with
      | none => rfl
      | some u => have := g.sub b u e; rw [hC b hb] at this; cases this
    · exact g.new b (by rw [off_out hb]; exact h1) h2
theorem startF_eq (N : List Str) (vs ws : List V) : startF N vs (ws.map some) = L2.start N (vs ++ ws) := by
  unfold startF L2.start
  rw [List.map_append, List.append_assoc, List.length_append, List.length_map, Nat.sub_sub]
section
variable {P : Program} {w : World} {K : PySem.W.Frag} {mg : Str → Option Value} {base : Heap} {N ps fr : List Str} {F : LF} {f : Addr} {k : Nat} {C : List Addr} {ws : List V} {es : List PyData} {D Fc : Hp} {ob : XSp}
/-- the cells of a closure, told in D -/
structure CellsD (D : Hp) (F : LF) (fr : List Str) (ws : List V) (C : List Addr) : Prop where
  all : ∀ c ∈ C, ∃ o u, D c = some (CellX c o) ∧ o.data = .cell u
  cl : ∀ y c, F.cl.lookup y = some c → c ∈ C
  inj : ∀ x y c, F.cl.lookup x = some c → F.cl.lookup y = some c → x = y
  len : ws.length = fr.length
  val : ∀ (i : Nat) (y : Str), fr[i]? = some y → ∃ c o u v, F.cl.lookup y = some c ∧ D c = some (CellX c o) ∧ o.data = .cell (some u) ∧ ws[i]? = some v ∧ RelV v u
/-- THE RULE for a closure: by its body -/
theorem thunk_of (S : NScope N ps fr F.scope) (hbd : ∀ (pm ctv : Value) (us : List Value), us.length = ps.length → bindArgs (PySem.W.kla_fn "<lambda>" F.q F.params F.body F.scope F.cl pm (.ref F.c) ctv) ⟨us, []⟩ = pure (ps.zip us))
    (dE : ∀ b o, D b = some o → ∃ φ, o = .ext φ) (df : D f = some (LfO f F)) (dc : D F.c = some (CodeO F.c F.q)) (cd : CellsD D F fr ws C) (rw_ : RpA Fc ws es)
    (hbody : ∀ (A : Around) (outer : List Env) (s : Shared) (H : Hp) (E : XK), Room k (A.deeper (envF F.nf f s.heap.objs.size)) → Takes (ncx (L2.CX P w) P w K mg base N F.nf f A outer s H E) (fun cls d _ H => (zX E).W cls d H) → ∀ vs ds R RX, vs.length = ps.length → ds.length = ps.length → ob vs ds R RX →
      (∃ t we, JX (zX E) (ncx (L2.CX P w) P w K mg base N F.nf f A outer s H E) F.body t we ∧ we (startV N (vs ++ ws) (ds ++ es)) RX) ∨ (∃ t we, JE (zX E) (ncx (L2.CX P w) P w K mg base N F.nf f A outer s H E) F.body t we ∧ we (startV N (vs ++ ws) (ds ++ es)) fun d _ => R d)) :
    Thunk P w K mg base (k + 1) ps.length D C Fc f ob := by
  refine ⟨dE, fun c hc => (cd.all c hc).elim fun o h => ⟨_, h.choose_spec.1⟩, ⟨F, df⟩, fun A outer s H F0 us vs ds R RX Q E hr e0 hD hDj hFc hF r ra hl hob out => ?_⟩
  have hC : ∀ c ∈ C, ∃ o, H c = some (CellX c o) := fun c hc => by
    obtain ⟨o, u, e, _⟩ := cd.all c hc
    exact ⟨o, hD c _ e⟩
  have cell : ∀ c ∈ C, ∃ o u, s.heap.get? c = some o ∧ o.data = .cell u := fun c hc => by
    obtain ⟨o, u, e, h⟩ := cd.all c hc
    exact ⟨o, u, cell_at e0.hok (hD c _ e), h⟩
  have nf : f ∉ C := fun q => by
    obtain ⟨o, u, e1, e2⟩ := cell f q
    obtain ⟨_, _, e3⟩ := lf_at e0.hok (hD f _ df)
    rw [e1] at e3
    cases e3
    cases e2
  have nc : F.c ∉ C := fun q => by
    obtain ⟨o, u, e1, e2⟩ := cell _ q
    obtain ⟨_, oc, vs, t, e0', e3, e4, _⟩ := codeO_at e0.hok (hD F.c _ dc)
    cases e0'
    rw [e1] at e3
    cases e3
    rw [e2] at e4
    cases e4
  refine codeAny_mono (lam_go (N := N) (fr := fr) (ws := ws.map some) S hbd hr (env0_off e0 hC) (by rw [off_out nf]; exact hD f _ df) (by rw [off_out nc]; exact hD _ _ dc) ?_ r hl fun hr' => ?_) fun r s' h => cr_on e0 hC h
  · refine ⟨by rw [List.length_map]; exact cd.len, fun y c e => ⟨off_in (cd.cl y c e), ?_⟩, cd.inj, fun i y e => ?_⟩
    · obtain ⟨o, u, e1, e2⟩ := cell c (cd.cl y c e)
      exact ⟨u, o, e1, e2⟩
    · obtain ⟨c, o, u, v, h1, h2, h3, h4, h5⟩ := cd.val i y e
      refine ⟨c, h1, fun v' hv => ⟨u, ?_, o, cell_at e0.hok (hD c _ h2), h3⟩⟩
      rw [List.getElem?_map, h4] at hv
      cases hv
      exact h5
  · have eF : Ex F0 (off H C) := fun b u e => by
      have hb : b ∉ C := fun q => by
        rw [hDj b q] at e
        cases e
      rw [off_out hb]
      exact hF b u e
    have hdl : ds.length = ps.length := by rw [← ra.length]; exact hl
    have tk : Takes (ncx (L2.CX P w) P w K mg base N F.nf f A outer s (off H C) fun cls d H' => (∀ c ∈ C, H' c = none) → E cls d (put H' H C)) (fun cls d _ H1 => (zX fun cls d H' => (∀ c ∈ C, H' c = none) → E cls d (put H' H C)).W cls d H1) := takes_of rfl rfl rfl rfl
    have sit : Sit (zX fun cls d H' => (∀ c ∈ C, H' c = none) → E cls d (put H' H C)) (fun _ => none) (startF N vs (ws.map some)) (off H C) F0 (startV N (vs ++ ws) (ds ++ es)) := by
      rw [startF_eq]
      exact sit_vats (ra.append (rw_.mono hFc)) ⟨trivial, fun _ q => nomatch q⟩ (fun _ q => q.elim (fun h => h.elim) fun ⟨_, h⟩ => nomatch h) eF
    rcases hbody A outer s (off H C) (fun cls d H' => (∀ c ∈ C, H' c = none) → E cls d (put H' H C)) hr' tk vs ds R RX hl hdl hob with ⟨t, we, J, hw⟩ | ⟨t, we, J, hw⟩
    · refine ⟨t, J.pe, J.de _ _ _ _ _ sit RX _ hw fun cls v d f dx H' F' g hd rr q hn => ?_⟩
      have hb : dx ∉ C := fun q => by rw [hn dx q] at hd; cases hd
      exact out.xx cls v d f dx _ F' (grow_put g (fun c h => h) hn) (by rw [put_out hb]; exact hd) rr q
    · refine ⟨t, J.pe, J.de _ _ _ _ _ sit _ _ hw fun v H' F' d n g _ rr q hn => ?_⟩
      exact out.rt v _ F' d (grow_put g (fun c h => h) hn) (fun _ q => nomatch q) rr q
end
/-! ### calls ahead of which cells are told -/
section
variable {P : Program} {w : World} {K : PySem.W.Frag} {mg : Str → Option Value} {base : Heap} {A : Around} {outer : List Env} {s s' : Shared} {H H' G : Hp} {h h' : Heap} {C : List Addr}
theorem env0_put (e : Env0 P w K mg base A outer s H) (hG : ∀ c ∈ C, ∃ o, G c = some (CellX c o) ∧ s.heap.get? c = some o) (hn : ∀ c ∈ C, H c = none) (hf : ∀ c ∈ C, c ∉ frs outer) (hb : ∀ c ∈ C, base.get? c = none) : Env0 P w K mg base A outer s (put H G C) where
  frames := e.frames
  mod := e.mod
  bs := fun b o q => ⟨(e.bs b o q).1, by
    have hc : b ∉ C := fun z => by rw [hb b z] at q; cases q
    rw [put_out hc]; exact (e.bs b o q).2⟩
  bsz := e.bsz
  funs := e.funs
  frf := fun b q => by
    have hc : b ∉ C := fun z => hf b z q
    rw [put_out hc]; exact e.frf b q
  hok := hok_put e.hok hG hn
  bare := e.bare
theorem cr_off {r : Result} {Q : VK} {E : XK} (hok : HOk P w H s.heap) (hG : ∀ c ∈ C, ∃ o, G c = some (CellX c o) ∧ s.heap.get? c = some o) (hn : ∀ c ∈ C, H c = none) (hf : ∀ c ∈ C, c ∉ frs outer)
    (c : CR CX0 outer P w (put H G C) s (fun v H' => (∀ c ∈ C, H' c = G c) ∧ Q v (off H' C)) E r s') : CR CX0 outer P w H s Q E r s' := by
  have nC : ∀ b u, H b = some u → b ∉ C := fun b u e q => by rw [hn b q] at e; cases e
  cases r with
  | ok fl =>
    cases fl with
    | ret u =>
      obtain ⟨v, H', os, bare, un, hok', rv, hk, q⟩ := c
      refine ⟨v, off H' C, os, bare, ⟨fun b o e n hb hx => ?_, fun b o e n hb hx => ?_, fun b o e n hx => ?_, un.there, fun b xs e => ?_, fun b o u e => ?_, fun b ps e => ?_⟩, hok_off hok' fun c hc => ?_, rv, q⟩
      · by_cases hc : b ∈ C
        · obtain ⟨o', e1, e2⟩ := hG b hc
          rw [e] at e2
          cases e2
          exact cell_at hok' (by rw [hk b hc]; exact e1)
        · exact un.keep b o e (by rw [put_out hc]; exact n) hb hx
      · have hc : b ∉ C := fun z => hf b z hb
        exact un.slot b o e (by rw [put_out hc]; exact n) hb hx
      · by_cases hc : b ∈ C
        · exact off_in hc
        · rw [off_out hc]; exact un.free b o e (by rw [put_out hc]; exact n) hx
      · have hc := nC b _ e
        rw [off_out hc]; exact un.tups b xs (by rw [put_out hc]; exact e)
      · have hc := nC b _ e
        rw [off_out hc]; exact un.frzs b o u (by rw [put_out hc]; exact e)
      · have hc := nC b _ e
        obtain ⟨m, z⟩ := un.tbls b ps (by rw [put_out hc]; exact e)
        exact ⟨m, by rw [off_out hc]; exact z⟩
      · obtain ⟨o, e1, _⟩ := hG c hc
        exact ⟨o, by rw [hk c hc]; exact e1⟩
    | next => exact c
    | brk => exact c
    | cont => exact c
  | error er => exact c
theorem grow_off {z : Zn} {F H F' H' : Hp} (g : Grow z F (put H G C) F' H') (hn : ∀ c ∈ C, H c = none) (hG : ∀ c ∈ C, ∃ o, G c = some (CellX c o)) (hF : ∀ c ∈ C, F c = none) (hz : ∀ c ∈ C, ¬ Zv z c) : Grow z F H F' (off H' C) ∧ ∀ c ∈ C, H' c = G c := by
  have kc : ∀ c ∈ C, H' c = G c := fun c hc => by
    obtain ⟨o, e⟩ := hG c hc
    rw [e]
    exact g.keep c _ (hz c hc) (by rw [put_in hc]; exact e)
  refine ⟨⟨fun b o n e => ?_, fun b e => ?_, g.ext, fun b u e => ?_, fun b h1 h2 => ?_⟩, kc⟩
  · have hc : b ∉ C := fun q => by rw [hn b q] at e; cases e
    rw [off_out hc]; exact g.keep b o n (by rw [put_out hc]; exact e)
  · by_cases hc : b ∈ C
    · exact hn b hc
    · rw [off_out hc] at e
      have := g.dom b e
      rwa [put_out hc] at this
  · have e1 := g.sub b u e
    have hc : b ∉ C := fun q => by
      obtain ⟨o, e2⟩ := hG b q
      have := g.apart (l := b) (o := CellX b o) (by rw [put_in q]; exact e2) (hz b q) (fun _ z => by unfold CellX at z; cases z) (hF b q)
      rw [this] at e; cases e
    rw [off_out hc]; exact e1
  · have hc : b ∉ C := fun q => h1 (hn b q)
    exact g.new b (by rw [put_out hc]; exact h1) h2
end
end CL
/-! Closures, 3: the rules: a lambda as an expression, a call with cells told, a def that hands back closures. -/
namespace CL
open PySem PySem.Spec PyProof.Rows L2 LamX NdefX DD
open Evl (Ex)
/-- G tells the cells C of X's frame, whose names' values stand in σ -/
structure Tells (X : Cx) (σ : L2.St) (G : Hp) (C : List Addr) : Prop where
  inj : ∀ x y c, X.env.cells.lookup x = some c → X.env.cells.lookup y = some c → x = y
  has : ∀ y, (X.env.scope.names.lookup y = some .cell ∨ X.env.scope.names.lookup y = some .free) → ∃ c, X.env.cells.lookup y = some c
  cl : ∀ y c, X.env.cells.lookup y = some c → c ∈ C
  own : ∀ c ∈ C, ∃ y, X.env.cells.lookup y = some c
  all : ∀ c ∈ C, ∃ o u, G c = some (CellX c o) ∧ o.data = .cell u
  val : ∀ (y : Str) (j : Nat) (v : V), X.N[j]? = some y → σ[j]? = some (some v) → (X.env.scope.names.lookup y = some .cell ∨ X.env.scope.names.lookup y = some .free) → ∃ c o u, X.env.cells.lookup y = some c ∧ G c = some (CellX c o) ∧ o.data = .cell (some u) ∧ RelV v u
/-- .. and may stand beside H in the state s -/
structure TellsAt (X : Cx) (H G : Hp) (C : List Addr) (s : Shared) : Prop where
  at_ : ∀ c ∈ C, ∃ o, G c = some (CellX c o) ∧ s.heap.get? c = some o
  no : ∀ c ∈ C, H c = none
  fr : ∀ c ∈ C, c ∉ frs X.stack
  bs : ∀ c ∈ C, X.base.get? c = none
section
variable {X : Cx} {pins : List (Addr × Obj)} {σ : L2.St} {H : Hp} {s : Shared}
theorem tells (I : Inv X pins σ H s) (hfn : ∀ y, X.fn y = true) : ∃ G C, Tells X σ G C ∧ TellsAt X H G C s := by
  have mem : ∀ c, c ∈ (X.env.cells.map (·.1)).filterMap (fun y => X.env.cells.lookup y) → ∃ y, X.env.cells.lookup y = some c := fun c hc => by
    obtain ⟨y, _, h⟩ := List.mem_filterMap.mp hc
    exact ⟨y, h⟩
  have big : ∀ y c, X.env.cells.lookup y = some c → X.s_0.heap.objs.size ≤ c := fun y c e => I.ok.cab y c (hfn y) e
  refine ⟨fun b => (s.heap.get? b).map (CellX b), (X.env.cells.map (·.1)).filterMap (fun y => X.env.cells.lookup y), ⟨I.ok.inj, fun y hy => I.ok.has y hy, fun y c e => ?_, mem, fun c hc => ?_, fun y j v h1 h2 h3 => ?_⟩, ⟨fun c hc => ?_, fun c hc => ?_, fun c hc h => ?_, fun c hc => ?_⟩⟩
  · exact List.mem_filterMap.mpr ⟨y, List.mem_map.mpr ⟨_, PySem.mem_of_lookup e, rfl⟩, e⟩
  · obtain ⟨y, e⟩ := mem c hc
    obtain ⟨v, o, ho, hd⟩ := I.cell y c e
    exact ⟨o, v, by show (s.heap.get? c).map (CellX c) = _; rw [ho]; rfl, hd⟩
  · obtain ⟨m, _, hl⟩ := I.loc
    obtain ⟨u, r, l⟩ := hl j y v h1 h2 (h3.elim (fun z => .inr (.inl z)) fun z => .inr (.inr z))
    rcases l with ⟨z, _⟩ | ⟨_, c, ec, o, ho, hd⟩
    · have z' : X.env.scope.names.lookup y = some .local := z
      rcases h3 with k | k <;> rw [k] at z' <;> cases z'
    · exact ⟨c, o, u, ec, by show (s.heap.get? c).map (CellX c) = _; rw [ho]; rfl, hd, r⟩
  · obtain ⟨y, e⟩ := mem c hc
    obtain ⟨v, o, ho, hd⟩ := I.cell y c e
    exact ⟨o, by show (s.heap.get? c).map (CellX c) = _; rw [ho]; rfl, ho⟩
  · obtain ⟨y, e⟩ := mem c hc
    exact I.freeC y c e
  · obtain ⟨y, e⟩ := mem c hc
    rcases List.mem_cons.mp (I.stkSub c h) with z | z
    · exact I.cne y c e z
    · obtain ⟨_, o, ho, _⟩ := I.ok.funs.mem z
      exact absurd (Nat.lt_of_lt_of_le (Heap.lt_size ho) (big y c e)) (Nat.lt_irrefl _)
  · obtain ⟨y, e⟩ := mem c hc
    exact Heap.get?_none_of_le (Nat.le_trans I.ok.bsz (big y c e))
end
/-! ### a lambda as an expression -/
def tLam1 (T : List (Addr × Str)) (P : Addr) (mk : Addr → LF) : TE := fun σ H Q => Tabs T H ∧ ∀ (f c' : Addr) (H1 : Hp), (∀ b o, b ≠ P → H b = some o → H1 b = some o) → (∀ b, H1 b = none → H b = none) → Tabs T H1 → H f = none → H1 f = some (LfO f (mk c')) → H1 c' = some (CodeO c' (mk c').q) → Q (.ref f) H1
def mkLam (q : Str) (params : Arguments) (body : Expr) (scope : Scope) (cells : List (Str × Addr)) (c' : Addr) : LF := ⟨q, params, body, scope, cloFrom cells scope.names [], c'⟩
section
variable {X : Cx} {T : List (Addr × Str)} {c P : Addr} {params : Arguments} {body : Expr} {scope : Scope} {pos : Pos}
/-- where the tables of lambdas stand -/
structure LTab (X : Cx) (T : List (Addr × Str)) (P : Addr) : Prop where
  tb : ∃ c, TabB X.base X.mg c P ∧ X.env.code = .ref c
  hm : (P, X.env.qual ++ "<lambda>") ∈ T
  hu : ∀ p ∈ T, p.1 = P → p.2 = X.env.qual ++ "<lambda>"
theorem pe_lam (L : LTab X T P) (hfree : ∀ y ∈ scope.names, y.2 = .free → X.env.scope.names.lookup y.1 = some .cell ∨ X.env.scope.names.lookup y.1 = some .free) (hdef : defaultsOf params X.env = ([], []) := by rfl) :
    PE X (.Lambda params body scope pos) (tLam1 T P (mkLam (X.env.qual ++ "<lambda>") params body scope X.env.cells)) := by
  obtain ⟨c, TB, hcode⟩ := L.tb
  refine ⟨fun pins s σ H Q I h => ?_⟩
  obtain ⟨hT, h⟩ := h
  exact lam_new I TB hcode L.hm L.hu hT hdef (fun y hy e => (hfree y hy e).elim (fun z => I.ok.has _ (.inl z)) fun z => I.ok.has _ (.inr z)) fun f c' H1 s' I1 k d t1 f0 f1 c1 => ⟨.ref f, H1, I1, rfl, h f c' H1 k d t1 f0 f1 c1⟩
end
/-! ### a call ahead of which the frame's cells are told -/
def tCallT (X : Cx) (sp : Sp) (t : TA) : TE := fun σ H Q => t σ H fun vs H1 => ∀ G C, Tells X σ G C → (∀ c ∈ C, H1 c = none) → sp vs (put H1 G C) (fun v H' => (∀ c ∈ C, H' c = G c) ∧ Q v (off H' C)) E0
section
variable {X : Cx} {k : Nat} {f : Addr} {fd : FuncData} {ps : List Str} {sp : Sp} {x : Str} {e : Expr} {es : List Expr} {t : TA} {p pos : Pos}
theorem pe_callT (F : FnOk X.prog X.w X.K X.mg X.base CX0 k f fd ps sp) (hr : Room k X.A) (hfn : ∀ y, X.fn y = true) (hg : Gl X x) (hm : X.mg x = some (.ref f)) (hk : PySem.W.keepIn X.K (.ref f) = true) (hb : Binds X.K fd ps []) (ha : PA X (e :: es) t)
    (hdb : (x == ("__debug__" : Str)) = false := by decide) (he : starEach (e :: es) X.env = (false, eval e X.env) :: starEach es X.env := by rfl) (hpl : (backTo pos (starEach es X.env)).any (·.1) = false := by rfl) :
    PE X (.Call (.Name x p) (e :: es) [] pos) (tCallT X sp t) := by
  refine ⟨fun pins s σ H Q I h => ?_⟩
  refine wpAny_Call_Name_kw (ld_glob I hg hm ?_ hdb)
  refine PySem.W.callWith_K (h₀ := X.base) I.ok.mod.kin hk (thn (ha.run pos pins s σ H _ I h) fun us s1 ⟨vs, H1, I1, r, q⟩ => ⟨I1.kIn, ?_⟩) he hpl
  obtain ⟨G, C, tl, ta⟩ := tells I1 hfn
  have q1 := q G C tl ta.no
  have hl : us.length = ps.length := by rw [← r.length]; exact F.len _ _ _ _ q1
  show wpAny _ _ (call (.ref f) us) _ _ _
  have hbd := hb s1 us I1.kIn (by rw [List.append_nil]; exact hl)
  rw [List.append_nil] at hbd
  refine wpAny_call (codeAny_mono (F.run X.A X.stack s1 (put H1 G C) ⟨us, []⟩ us vs _ E0 hr (env0_put I1.env0 ta.at_ ta.no ta.fr ta.bs) hbd r q1) fun r s' hq => ?_)
  have hq' := cr_off I1.hok ta.at_ ta.no ta.fr hq
  cases r with
  | error e => exact hq'.elim
  | ok fl =>
    cases fl with
    | ret u => exact I1.after hq'
    | next => exact False.elim hq'
    | brk => exact False.elim hq'
    | cont => exact False.elim hq'
end
/-! ### a def at whose end its cells are told -/
abbrev TR := (V → L2.St → Hp → Prop) → L2.St → Hp → Prop
structure PR (X : Cx) (sts : List Stmt) (t : TR) : Prop where
  run : ∀ (pins : List (Addr × Obj)) (s : Shared) (σ : L2.St) (H : Hp) (R : V → L2.St → Hp → Prop), Inv X pins σ H s → t R σ H → wpAny (model X.prog X.w) X.A (execs sts X.env) (fun fl s' => ∃ u v σ' H', fl = .ret u ∧ Inv X pins σ' H' s' ∧ RelV v u ∧ R v σ' H') X.xe s
section
variable {X : Cx} {st : Stmt} {rest : List Stmt} {t : TS} {u : TR} {e : Expr} {te : TE} {pos : Pos}
theorem pr_cons (h1 : PS X st t) (h2 : PR X rest u) : PR X (st :: rest) (fun R σ H => t { nx := fun σ' H' => u R σ' H', rt := fun _ _ => False } σ H) := ⟨fun pins s σ H R I h => by
  refine wpAny_execs_cons (thn (h1.run pins s σ H _ I h) fun fl s1 q => ?_)
  cases fl with
  | next =>
    obtain ⟨σ', H', I', q⟩ := q
    exact h2.run pins s1 σ' H' R I' q
  | ret v => obtain ⟨_, _, _, _, _, q⟩ := q; exact q.elim
  | brk => obtain ⟨_, _, _, q⟩ := q; exact q.elim
  | cont => obtain ⟨_, _, _, q⟩ := q; exact q.elim⟩
theorem pr_ret (he : PE X e te) : PR X (.Return (some e) pos :: rest) (fun R σ H => te σ H fun v H' => R v σ H') := ⟨fun pins s σ H R I h => by
  refine wpAny_execs_cons (wpAny_Return_some (thn (he.run pins s σ H _ I h) fun v s1 hh => ?_))
  obtain ⟨x, H1, I1, r1, q1⟩ := hh
  exact ⟨v, x, σ, H1, rfl, I1, r1, q1⟩⟩
end
section
variable {P : Program} {w : World} {K : PySem.W.Frag} {mg : Str → Option Value} {base : Heap} {N ps : List Str} {k : Nat} {f : Addr} {fd : FuncData} {x qual : Str} {st : Stmt} {sp : Sp}
def fnCode (K : PySem.W.Frag) (f : Addr) : Option Value := match K.lookup f with
  | some ⟨_, _, .func fd, _⟩ => some fd.code
  | _ => none
/-- a def by its body, its code object known -/
theorem fn_okC (F : Fun K x qual st f fd) (S : FnScope N ps (defScope st)) (len : ∀ vs H Q E, sp vs H Q E → vs.length = ps.length)
    (hbody : ∀ (cdv : Value) (A : Around) (outer : List Env) (s : Shared) (H : Hp) (vs : List V) (Q : VK) (E : XK), fnCode K f = some cdv → Room k (A.deeper (envOfC qual (defScope st) s.heap.objs.size f cdv)) → sp vs H Q E →
      ∃ t, PSs (cxOf CX0 P w K mg base N qual (defScope st) f cdv A outer s H E).nox (defBody st) t ∧ t { nx := fun _ H' => Q .non H', rt := Q } (L2.start N vs) H) : FnOk P w K mg base CX0 (k + 1) f fd ps sp := by
  obtain ⟨oc, od, kV, doc, pm, an, cdv, ct, osl, rfl, lk, hcd⟩ := F.ex
  refine fn_of lk hcd S len fun A outer s H vs Q E hr hsp => ?_
  obtain ⟨t, h, q⟩ := hbody cdv A outer s H vs Q E (by unfold fnCode; rw [lk]) hr hsp
  exact ⟨t, h.nox, q⟩
/-- THE RULE for a def that hands back closures of its own -/
theorem fn_told (F : Fun K x qual st f fd) (S : FnScope N ps (defScope st)) (len : ∀ vs H Q E, sp vs H Q E → vs.length = ps.length)
    (hbody : ∀ (cdv : Value) (A : Around) (outer : List Env) (s : Shared) (H : Hp) (vs : List V) (Q : VK) (E : XK), fnCode K f = some cdv → Room k (A.deeper (envOfC qual (defScope st) s.heap.objs.size f cdv)) → sp vs H Q E →
      ∃ t, PR (cxOf CX0 P w K mg base N qual (defScope st) f cdv A outer s H E).nox (defBody st) t ∧ t (fun v σ H' => ∀ G C, Tells (cxOf CX0 P w K mg base N qual (defScope st) f cdv A outer s H E).nox σ G C → (∀ c ∈ C, H' c = none) → Q v (put H' G C)) (L2.start N vs) H) :
    FnOk P w K mg base CX0 (k + 1) f fd ps sp := by
  obtain ⟨oc, od, kV, doc, pm, an, cdv, ct, osl, rfl, lk, hcd⟩ := F.ex
  refine ⟨len, fun A outer s H args us vs Q E hr e0 hb r hsp => ?_⟩
  have hl := len _ _ _ _ hsp
  have lim : s.heap.NoLimit := e0.mod.nolimit.keeps fun b o e => (e0.bs b o e).1
  have KX : K.In s.heap := e0.mod.kin.keeps fun b o e => (e0.bs b o e).1
  have hk2 : ∀ y ∈ ps.zip us, (defScope st).names.lookup y.1 = some .local ∨ ((defScope st).names.lookup y.1 = some .cell ∧ ((cellsFrom (s.heap.objs.size + 1) (defScope st).names []).lookup y.1).isSome = true) := fun ⟨n, v⟩ hy =>
    (S.par n (List.of_mem_zip hy).1).elim .inl fun q => .inr ⟨q, PySem.W.cellsFrom_some _ _ _ (.inl q)⟩
  refine codeAny_call_function hr.depth (KX _ _ lk) rfl S.co S.gen rfl (PySem.W.codeRec_of KX hcd) (hb _ _ _ _ ?_)
  refine wpAny_newFunctionEnv_cells S.kind hk2 fun env he s1 xx => ?_
  subst he
  refine ⟨lim.keeps xx.toInCall.keep, codeAny_func ?_⟩
  obtain ⟨t, ht, hq⟩ := hbody cdv A outer s H vs Q E (by unfold fnCode; rw [lk]) (hr.deeper _) hsp
  have I : Inv (cxOf CX0 P w K mg base N qual (defScope st) f cdv A outer s H E) [] (L2.start N vs) H s1 := inv_start S hr.hd e0 hl r xx
  refine wpAny_mono (ht.run [] s1 (L2.start N vs) H _ (I.wish _) hq) (fun fl s' hs => ?_) fun e s' hs => hs.elim
  obtain ⟨u, v, σ', H', rfl, J, rv, q⟩ := hs
  obtain ⟨G, C, tl, ta⟩ := tells J fun _ => rfl
  have nC : ∀ b z, H' b = some z → b ∉ C := fun b z e hc => by rw [ta.no b hc] at e; cases e
  have old : ∀ c ∈ C, s.heap.get? c = none := fun c hc => by
    obtain ⟨y, e⟩ : ∃ y, (cxOf CX0 P w K mg base N qual (defScope st) f cdv A outer s H E).nox.env.cells.lookup y = some c := tl.own c hc
    exact Heap.get?_none_of_le (J.ok.cab y c rfl e)
  refine ⟨v, put H' G C, J.os, J.bare, ⟨J.base.keep, J.base.slot, fun b o e n hx => ?_, J.base.there, fun b xs e => ?_, fun b o z e => ?_, fun b ps e => ?_⟩, hok_put J.hok ta.at_ ta.no, rv, q G C tl ta.no⟩
  · have hb : b ∉ C := fun hc => by rw [old b hc] at e; cases e
    rw [put_out hb]
    exact J.base.free b o e n hx
  · have e1 := J.base.tups b xs e
    rw [put_out (nC b _ e1)]; exact e1
  · have e1 := J.base.frzs b o z e
    rw [put_out (nC b _ e1)]; exact e1
  · obtain ⟨m, e1⟩ := J.base.tbls b ps e
    exact ⟨m, by rw [put_out (nC b _ e1)]; exact e1⟩
end
end CL
/-! Closures, 4: a closure just made; a closure called; try with several clauses. -/
namespace CL
open PySem PySem.Spec PyProof.Rows L2 LamX NdefX DD
open Evl (Ex)
/-- the objects of a closure -/
def dOf (f c' : Addr) (H G : Hp) (C : List Addr) : Hp := fun b => if b ∈ C then G b else if b = f ∨ b = c' then H b else none
section
variable {X : Cx} {σ : L2.St} {G H1 : Hp} {C : List Addr} {f c' : Addr} {q : Str} {params : Arguments} {body : Expr} {scope : Scope} {N ps fr : List Str} {js : List Nat} {k : Nat} {ws : List V} {es : List PyData} {Fc : Hp} {ob : XSp}
theorem mk_thunk (tl : Tells X σ G C) (hn : ∀ c ∈ C, H1 c = none) (hf : H1 f = some (LfO f (mkLam q params body scope X.env.cells c'))) (hc : H1 c' = some (CodeO c' q)) (S : NScope N ps fr scope)
    (hbd : ∀ (cl : List (Str × Addr)) (pm ctv : Value) (us : List Value), us.length = ps.length → bindArgs (PySem.W.kla_fn "<lambda>" q params body scope cl pm (.ref c') ctv) ⟨us, []⟩ = pure (ps.zip us))
    (hfr : ∀ y ∈ fr, (y, NameKind.free) ∈ scope.names) (hkin : ∀ y ∈ scope.names, y.2 = .free → X.env.scope.names.lookup y.1 = some .cell ∨ X.env.scope.names.lookup y.1 = some .free) (hjs : js.map (fun j => X.N[j]?) = fr.map some) (hσ : js.map (fun j => σ[j]?) = ws.map fun v => some (some v)) (rw_ : RpA Fc ws es)
    (hbody : ∀ (A : Around) (outer : List Env) (s : Shared) (H : Hp) (E : XK), Room k (A.deeper (envF (mkLam q params body scope X.env.cells c').nf f s.heap.objs.size)) → Takes (ncx (L2.CX X.prog X.w) X.prog X.w X.K X.mg X.base N (mkLam q params body scope X.env.cells c').nf f A outer s H E) (fun cls d _ H => (zX E).W cls d H) → ∀ vs ds R RX, vs.length = ps.length → ds.length = ps.length → ob vs ds R RX →
      (∃ t we, JX (zX E) (ncx (L2.CX X.prog X.w) X.prog X.w X.K X.mg X.base N (mkLam q params body scope X.env.cells c').nf f A outer s H E) body t we ∧ we (startV N (vs ++ ws) (ds ++ es)) RX) ∨ (∃ t we, JE (zX E) (ncx (L2.CX X.prog X.w) X.prog X.w X.K X.mg X.base N (mkLam q params body scope X.env.cells c').nf f A outer s H E) body t we ∧ we (startV N (vs ++ ws) (ds ++ es)) fun d _ => R d)) :
    Thunk X.prog X.w X.K X.mg X.base (k + 1) ps.length (dOf f c' H1 G C) C Fc f ob ∧ Ex (dOf f c' H1 G C) (put H1 G C) ∧ ∀ F, Ex F H1 → Dj C F := by
  have nf : f ∉ C := fun z => by rw [hn f z] at hf; cases hf
  have nc : c' ∉ C := fun z => by rw [hn c' z] at hc; cases hc
  have free : ∀ y ∈ scope.names, y.2 = .free → ∃ c, X.env.cells.lookup y.1 = some c := fun y hy e => tl.has _ (hkin y hy e)
  have dC : ∀ c ∈ C, dOf f c' H1 G C c = G c := fun c h => if_pos h
  have df : dOf f c' H1 G C f = some (LfO f (mkLam q params body scope X.env.cells c')) := by unfold dOf; rw [if_neg nf, if_pos (.inl rfl)]; exact hf
  have dc : dOf f c' H1 G C c' = some (CodeO c' q) := by unfold dOf; rw [if_neg nc, if_pos (.inr rfl)]; exact hc
  have cases_ : ∀ b o, dOf f c' H1 G C b = some o → (b ∈ C ∧ G b = some o) ∨ (b ∉ C ∧ (b = f ∨ b = c') ∧ H1 b = some o) := fun b o h => by
    unfold dOf at h
    by_cases h1 : b ∈ C
    · rw [if_pos h1] at h; exact .inl ⟨h1, h⟩
    · rw [if_neg h1] at h
      by_cases h2 : b = f ∨ b = c'
      · rw [if_pos h2] at h; exact .inr ⟨h1, h2, h⟩
      · rw [if_neg h2] at h; cases h
  have cf : ∀ {y : Str} {c : Addr}, (cloFrom X.env.cells scope.names []).lookup y = some c → X.env.cells.lookup y = some c := fun e => clo_cm free e
  have lens : js.length = fr.length ∧ js.length = ws.length := ⟨by simpa using congrArg List.length hjs, by simpa using congrArg List.length hσ⟩
  refine ⟨thunk_of (F := mkLam q params body scope X.env.cells c') S (fun pm ctv us => hbd _ pm ctv us) (fun b o h => ?_) df dc ⟨fun c h => ?_, fun y c h => tl.cl y c (cf h), fun x y c h1 h2 => tl.inj x y c (cf h1) (cf h2), lens.2.symm.trans lens.1, fun i y h => ?_⟩ rw_ hbody, fun b o h => ?_, fun F h c hcC => ?_⟩
  · rcases cases_ b o h with ⟨h1, h2⟩ | ⟨_, rfl | rfl, h2⟩
    · obtain ⟨o', u, e, _⟩ := tl.all b h1
      rw [e] at h2
      cases h2
      exact ⟨_, rfl⟩
    · rw [hf] at h2; cases h2; exact ⟨_, rfl⟩
    · rw [hc] at h2; cases h2; exact ⟨_, rfl⟩
  · obtain ⟨o', u, e, d⟩ := tl.all c h
    exact ⟨o', u, by rw [dC c h]; exact e, d⟩
  · have hi : i < js.length := by
      rw [lens.1]; exact (List.getElem?_eq_some_iff.mp h).1
    have e1 : X.N[js[i]]? = some y := by
      have := congrArg (fun l => l[i]?) hjs
      simp only [List.getElem?_map] at this
      rw [List.getElem?_eq_getElem hi, h] at this
      exact Option.some.inj this
    obtain ⟨v, e2, e3⟩ : ∃ v, ws[i]? = some v ∧ σ[js[i]]? = some (some v) := by
      have := congrArg (fun l => l[i]?) hσ
      simp only [List.getElem?_map] at this
      rw [List.getElem?_eq_getElem hi] at this
      cases hw : ws[i]? with
      | none => rw [hw] at this; cases this
      | some v => rw [hw] at this; exact ⟨v, rfl, Option.some.inj this⟩
    have yin := hfr y (List.mem_of_getElem? h)
    obtain ⟨c, o, u, g1, g2, g3, g4⟩ := tl.val y js[i] v e1 e3 (hkin _ yin rfl)
    exact ⟨c, o, u, v, clo_has free yin g1, by rw [dC c (tl.cl y c g1)]; exact g2, g3, e2, g4⟩
  · rcases cases_ b o h with ⟨h1, h2⟩ | ⟨h1, _, h2⟩
    · rw [put_in h1]; exact h2
    · rw [put_out h1]; exact h2
  · cases e : F c with
    | none => rfl
    | some u => have := h c u e; rw [hn c hcC] at this; cases this
end
/-! ### a closure called by a name -/
theorem fnAt_lf {P : Program} {w : World} {H : Hp} {h : Heap} {f : Addr} {F : LF} (hok : HOk P w H h) (e : H f = some (LfO f F)) : PySem.W.FnAt f h := by
  obtain ⟨pm, ctv, ho⟩ := lf_at hok e
  exact ⟨_, _, _, _, ho⟩
section
variable {X : Cx} {W : WX} {i k j np : Nat} {x : Str} {p pos : Pos} {e : Expr} {es : List Expr} {t : TA}
/-- what a call of a closure at f asks -/
def AskT (P : Program) (w : World) (K : PySem.W.Frag) (mg : Str → Option Value) (base : Heap) (k np : Nat) (f : Addr) (vs : List V) (H : Hp) (Q : VK) (E : XK) : Prop := ∃ (D : Hp) (C : List Addr) (Fc F : Hp) (ob : XSp) (ds : List PyData) (R : PyData → Prop) (RX : Value → Str → V → PyData → Prop), Thunk P w K mg base k np D C Fc f ob ∧ Ex D H ∧ Dj C F ∧ Ex Fc F ∧ Ex F H ∧ RpA F vs ds ∧ vs.length = np ∧ ob vs ds R RX ∧ Outs z0 F H R RX Q E
theorem run_thunk {pins : List (Addr × Obj)} {σ : L2.St} {H : Hp} {s : Shared} {f : Addr} {us : List Value} {vs : List V} {Q : VK} {E : XK} (hr : Room j X.A) (hk : k ≤ j) (hx : ∀ e s', L2.CX X.prog X.w X.stack H s E e s' → X.xe e s') (I : Inv X pins σ H s) (r : Vals vs us) (h : AskT X.prog X.w X.K X.mg X.base k np f vs H Q E) :
    wpAny (model X.prog X.w) X.A (call (.ref f) us) (EP X pins σ Q) X.xe s := by
  obtain ⟨D, C, Fc, F, ob, ds, R, RX, T, h1, h2, h3, h4, h5, h6, h7, h8⟩ := h
  refine wpAny_call (codeAny_mono (T.run X.A X.stack s H F us vs ds R RX Q E (hr.mono hk) I.env0 h1 h2 h3 h4 r h5 h6 h7 h8) fun r s' hq => ?_)
  cases r with
  | error e => exact hx e s' hq
  | ok fl =>
    cases fl with
    | ret u => exact I.after hq
    | next => exact False.elim hq
    | brk => exact False.elim hq
    | cont => exact False.elim hq
theorem pe_ask0 (hr : Room j X.A) (hk : k ≤ j) (tk : Takes X W) (hN : X.N[i]? = some x) (hv : Vis X.env.scope x) (hd : (x == ("__debug__" : Str)) = false := by decide) (hcd : (x == ("__classdict__" : Str)) = false := by decide) :
    PE X (.Call (.Name x p) [] [] pos) (fun σ H Q => ∃ f, σ[i]? = some (some (.ref f)) ∧ AskT X.prog X.w X.K X.mg X.base k np f [] H Q (fun cls d H' => W cls d σ H')) := by
  refine ⟨fun pins s σ H Q I h => ?_⟩
  obtain ⟨f, hs, ha⟩ := h
  refine wpAny_Call_Name_kw (thn ((pe_var (pos := p) hN hv hd hcd).run pins s σ H (fun v H1 => v = .ref f ∧ H1 = H) I ⟨.ref f, hs, rfl, rfl⟩) fun u s1 hh => ?_)
  obtain ⟨v, H1, I1, r1, rfl, rfl⟩ := hh
  obtain rfl : u = Value.ref f := r1
  obtain ⟨D, C, Fc, F, ob, ds, R, RX, T, h1, _⟩ := id ha
  obtain ⟨Fw, ef⟩ := T.fn
  refine PySem.W.callWith_F0 (first := []) (fnAt_lf I1.hok (h1 f _ ef)) ?_
  show wpAny _ _ (call (.ref f) []) _ _ _
  exact run_thunk hr hk (fun e s' hc => tk e s' (XE.of_call I1 (fun _ _ _ h => h) hc)) I1 .nil ha
/-- .. with arguments -/
theorem pe_ask (hr : Room j X.A) (hk : k ≤ j) (tk : Takes X W) (ha : PA X (e :: es) t) (hN : X.N[i]? = some x) (hv : Vis X.env.scope x) (hd : (x == ("__debug__" : Str)) = false := by decide) (hcd : (x == ("__classdict__" : Str)) = false := by decide)
    (he : starEach (e :: es) X.env = (false, eval e X.env) :: starEach es X.env := by rfl) (hpl : (backTo pos (starEach es X.env)).any (·.1) = false := by rfl) :
    PE X (.Call (.Name x p) (e :: es) [] pos) (fun σ H Q => ∃ f, σ[i]? = some (some (.ref f)) ∧ (∃ F, H f = some (LfO f F)) ∧ t σ H fun vs H1 => AskT X.prog X.w X.K X.mg X.base k np f vs H1 Q (fun cls d H' => W cls d σ H')) := by
  refine ⟨fun pins s σ H Q I h => ?_⟩
  obtain ⟨f, hs, ⟨Fw, ef⟩, h⟩ := h
  refine wpAny_Call_Name_kw (thn ((pe_var (pos := p) hN hv hd hcd).run pins s σ H (fun v H1 => v = .ref f ∧ H1 = H) I ⟨.ref f, hs, rfl, rfl⟩) fun u s1 hh => ?_)
  obtain ⟨v, H1, I1, r1, rfl, rfl⟩ := hh
  obtain rfl : u = Value.ref f := r1
  refine PySem.W.callWith_F (first := []) (fnAt_lf I1.hok ef) (thn (ha.run pos pins s1 σ H1 _ I1 h) fun us s2 hh => ?_) he hpl
  obtain ⟨vs, H2, I2, r, q⟩ := hh
  obtain ⟨D, C, Fc, F, ob, ds, R, RX, T, h1, _⟩ := id q
  obtain ⟨Fw', ef'⟩ := T.fn
  refine ⟨fnAt_lf I2.hok (h1 f _ ef'), ?_⟩
  show wpAny _ _ (call (.ref f) us) _ _ _
  exact run_thunk hr hk (fun e s' hc => tk e s' (XE.of_call I2 (fun _ _ _ h => h) hc)) I2 r q
end
/-! ### try: body, except c as n: suite, .. -/
/-- what the clauses wish, each binding slot i -/
def wAsMany (K : PySem.W.Frag) (i : Nat) (Wout : WX) (D : Ends) : List (Value × (Addr → Value → Option Addr → TS)) → WX
  | [] => Wout
  | (c, ts) :: r => fun cls d σ H => ∃ b, PySem.W.exmOne K cls c = some b ∧ (b = true → ∀ a, H a = none → ts a cls d { nx := fun σ' H' => D.nx (σ'.set i none) H', rt := D.rt, bk := fun σ' H' => D.bk (σ'.set i none) H', ct := fun σ' H' => D.ct (σ'.set i none) H' } (σ.set i (some (.ref a))) H) ∧ (b = false → wAsMany K i Wout D r cls d σ H)
inductive HdsAs (X : Cx) (n : Str) : List ExceptHandler → List (Value × (Addr → Value → Option Addr → TS)) → Prop
  | nil : HdsAs X n [] []
  | cons {x : Str} {c : Value} {ts : Addr → Value → Option Addr → TS} {b₀ : Stmt} {suite : List Stmt} {np pos' : Pos} {hds : List ExceptHandler} {l : List (Value × (Addr → Value → Option Addr → TS))} (hc : Names X x c)
      (hsu : ∀ (a : Addr) (oe : Obj) (cls : Value) (d : Option Addr) (pn : List (Addr × Obj)), Zc cls d oe → (∃ vs, oe.data = .fields vs) → PSs (X.suite a ((a, oe) :: pn)) (b₀ :: suite) (ts a cls d)) (r : HdsAs X n hds l) :
      HdsAs X n (.ExceptHandler (some (.Name x np)) (some n) (b₀ :: suite) pos' :: hds) ((c, ts) :: l)
section
variable {X : Cx} {n : Str} {i : Nat} {body : List Stmt} {h₀ : ExceptHandler} {hds : List ExceptHandler} {l : List (Value × (Addr → Value → Option Addr → TS))} {pos : Pos} {tb : WX → TS} {Wout : WX}
theorem ps_try_as_many (hs : X.stack = X.env :: X.outer) (hf : X.env.frame = some X.env.locals) (hN : X.N.Nodup) (hi : X.N[i]? = some n) (hln : X.env.kindOf n = some .local) (tk : Takes X Wout)
    (hb : ∀ (W : WX) (pn : List (Addr × Obj)) (xe : Value → Shared → Prop), Takes (X.tr pn xe) W → PassesOwn (model X.prog X.w) X.A X.env xe → PSs (X.tr pn xe) body (tb W))
    (hh : HdsAs X n (h₀ :: hds) l) : PS X (.Try body (h₀ :: hds) [] [] pos) (fun D σ H => tb (wAsMany X.K i Wout D l) D σ H) := by
  refine ⟨fun pins s σ H D I h => ?_⟩
  have ok := I.ok
  have hfr : X.A.frames = some (X.env :: X.outer) := by rw [ok.frames, hs]
  have hloc : Loc X.env.scope n := .inl hln
  refine wpAny_Try_except ?_
  have body_ := (hb (wAsMany X.K i Wout D l) (X.pn ++ pins) (fun e s₁ => wpAny (model X.prog X.w) X.A (noteFrame e X.env) (fun _ s₂ => wpAny (model X.prog X.w) X.A (setFlight e none) (fun _ s₃ => wpAny (model X.prog X.w) X.A (handleBy e X.env (h₀ :: hds)) (SP X pins D) X.xe s₃) X.xe s₂) X.xe s₁)
    (fun u s' xx => ?_) PassesOwn.looking).run [] s σ H D (I.toTry _) h
  · refine wpAny_mono body_ (fun fl s1 hsp => ?_) fun e s1 he => he
    cases fl with
    | next =>
      obtain ⟨σ', H', J', q⟩ := hsp
      exact wpAny_execs_nil ⟨σ', H', J'.ofTry ok, q⟩
    | ret u =>
      obtain ⟨v, σ', H', J', r, q⟩ := hsp
      exact ⟨v, σ', H', J'.ofTry ok, r, q⟩
    | brk =>
      obtain ⟨σ', H', J', q⟩ := hsp
      exact ⟨σ', H', J'.ofTry ok, q⟩
    | cont =>
      obtain ⟨σ', H', J', q⟩ := hsp
      exact ⟨σ', H', J'.ofTry ok, q⟩
  · -- what flies is noted, then looked at clause by clause
    obtain ⟨a, B, sI, pins', σ', H', cls, d, rfl, J', nb, up, sky, na, os, ag, w⟩ := xx
    have J : Inv X pins σ' H' sI := J'.ofTry ok
    rw [show (X.tr (X.pn ++ pins) _).stack = X.env :: X.outer from hs] at sky
    show wpAny (model X.prog X.w) X.A (noteFrame (.ref a) X.env) _ _ _
    refine Sky.land Zc.steady hfr hf sky fun h3 fl3 up3 => ?_
    have notFr : ∀ {h : Heap} {o : Obj} {vs : Array Value}, h.FunFrames B (X.env :: X.outer) → h.get? a = some o → o.data = .fields vs → a ∉ frs (X.env :: X.outer) := fun {h o vs} ff e dd hm => by
      obtain ⟨_, o', e', hnf⟩ := ff.mem hm
      rw [e] at e'; cases e'
      exact hnf _ dd
    obtain ⟨oe3, vs3, he3, hz3, hd3⟩ := fl3.there
    have J3 : Inv X pins σ' H' { s' with heap := h3 } := J.landed nb fl3.1 (up.trans up3) os ag
    have nfr := notFr fl3.2.2.1 he3 hd3
    have nF : a ∉ X.fs := fun hm => by
      obtain ⟨e, he, q⟩ := List.mem_filterMap.mp hm
      exact nfr (List.mem_filterMap.mpr ⟨e, List.mem_cons_of_mem _ he, q⟩)
    have nL : a ≠ X.env.locals := fun z => nfr (List.mem_filterMap.mpr ⟨X.env, List.mem_cons_self, by rw [hf, z]⟩)
    have S3 := J3.suite he3 hd3 na nL nF
    have LT : PySem.W.Looks (model X.prog X.w) h3 (typeOf (.ref a)) cls := fun A Q E s k q => wpAny_typeOf_ref (k _ _ he3) (by rw [hz3.1]; exact q)
    have go : ∀ {hds' : List ExceptHandler} {l' : List (Value × (Addr → Value → Option Addr → TS))}, HdsAs X n hds' l' → wAsMany X.K i Wout D l' cls d σ' H' →
        wpAny (model X.prog X.w) X.A (handleBy (.ref a) X.env hds') (SP X pins D) X.xe { s' with heap := h3 } := by
      intro hds' l' hk
      induction hk with
      | nil =>
        intro w
        refine wpAny_handleBy_nil ?_
        obtain ⟨k1, k2, k3, oe, vs, T, oT, ts', he, hz, hd, h1, hr⟩ := id fl3
        have fin : wpAny (model X.prog X.w) X.A (setFlight (.ref a) X.env.frame) (fun _ s4 => wpAny (model X.prog X.w) X.A (throw (.ref a) : Sem Flow) (SP X pins D) X.xe s4) X.xe { s' with heap := h3 } := by
          rw [hf]
          refine HandSPX.setFlight_upZ fl3 fun h4 hh4 up4 => wpAny_throw (tk _ _ ?_)
          exact ⟨a, B, sI, pins, σ', H', cls, d, rfl, J, nb, (up.trans up3).trans up4, .inr (.inr (by rw [hs]; exact hh4)), na, os, ag, w⟩
        unfold PySem.passOn
        refine wpAny_bind (wpAny_field he hd h1 ?_)
        rw [if_neg (show ¬ ((Value.ref T == Value.none) = true) from by simp)]
        first
          | exact wpAny_bind (wpAny_pure (wpAny_bind fin))
          | exact wpAny_bind fin
      | @cons x c ts b₀ suite np pos' hds2 l2 hc hsu r ih =>
        intro w
        obtain ⟨b, hb1, hyes, hno⟩ := w
        refine wpAny_handleBy_cons (codeAny_handlers_test ?_) (by intro q; cases q)
        have LM := PySem.W.exm_one (M := model X.prog X.w) (J3.kIn) LT hb1
        have look : ∀ {Q : Value → Shared → Prop} {E : Value → Shared → Prop}, Q c { s' with heap := h3 } → wpAny (model X.prog X.w) (X.A.mark (some (.ref a))) (eval (.Name x np) X.env) Q E { s' with heap := h3 } := fun {Q E} q => by
          obtain ⟨hg, hdbg, hm | ⟨hm, hv, hnn⟩⟩ := hc
          · exact ld_glob (X := X.suite a ((a, oe3) :: (X.pn ++ pins))) S3 hg hm q hdbg
          · exact ld_blt (X := X.suite a ((a, oe3) :: (X.pn ++ pins))) S3 hg hm hv q hnn hdbg
        refine look (LM.here ?_)
        cases b with
        | false =>
          show wpAny _ X.A (handleBy (.ref a) X.env hds2) _ _ _
          exact ih (hno rfl)
        | true =>
          refine codeAny_handlers_suite_as ?_
          refine HandSPX.lands_againZ fl3 fun h4 fl4 up4 => ?_
          obtain ⟨oe4, vs4, he4, hz4, hd4⟩ := fl4.there
          have J4 : Inv X pins σ' H' { s' with heap := h4 } := J.landed nb fl4.1 ((up.trans up3).trans up4) os ag
          refine store_ok (X := X.suite a ((a, oe4) :: (X.pn ++ pins))) (v := .ref a) (J4.suite he4 hd4 na nL nF) hN hi hloc rfl (fun s5 S5 => ?_) (.inr hln)
          refine wpAny_mono ((hsu a oe4 cls d (X.pn ++ pins) hz4 ⟨_, hd4⟩).run [] s5 _ H' _ S5 (hyes rfl a na)) (fun f s6 hsp => ?_) (fun _ _ z => False.elim z)
          have end_ : ∀ {σ6 : L2.St} {H6 : Hp} {Q : Shared → Prop}, Inv (X.suite a ((a, oe4) :: (X.pn ++ pins))) [] σ6 H6 s6 → (∀ s7, Inv X pins (σ6.set i none) H6 s7 → Q s7) →
              wpAny (model X.prog X.w) X.A (do bindName X.env n .none; unbindBehindTheSuite X.env n pos') (fun _ s7 => Q s7) X.xe s6 := fun {σ6 H6 Q} S6 hq => gone_ok (S6.unsuite ok) hN hi hln hq
          cases f with
          | ret u =>
            obtain ⟨v6, σ6, H6, S6, r6, q6⟩ := hsp
            exact end_ S6 fun s7 J7 => ⟨_, _, _, J7, r6, q6⟩
          | next =>
            obtain ⟨σ6, H6, S6, q6⟩ := hsp
            exact end_ S6 fun s7 J7 => ⟨_, _, J7, q6⟩
          | brk =>
            obtain ⟨σ6, H6, S6, q6⟩ := hsp
            exact end_ S6 fun s7 J7 => ⟨_, _, J7, q6⟩
          | cont =>
            obtain ⟨σ6, H6, S6, q6⟩ := hsp
            exact end_ S6 fun s7 J7 => ⟨_, _, J7, q6⟩
    exact go hh w
end
end CL
/-! Closures, 5: promises about closures: one is met, a list of them is handed back, all of a list are met. -/
namespace CL
open PySem PySem.Spec PyProof.Rows L2 LamX NdefX DD
open Evl (Ex)
def zT (T : List (Addr × Str)) : Zn := ⟨none, T, fun _ _ _ => False⟩
theorem zv_zT {T : List (Addr × Str)} {c : Addr} : Zv (zT T) c ↔ ∃ q, (c, q) ∈ T := ⟨fun h => h.elim (fun q => q.elim) id, .inr⟩
/-- how a call without arguments ends -/
abbrev Beh := (PyData → Prop) → (Value → Str → V → PyData → Prop) → Prop
/-- v is a closure that ends as b says -/
def ClosAt (P : Program) (w : World) (K : PySem.W.Frag) (mg : Str → Option Value) (base : Heap) (k : Nat) (H F : Hp) (v : V) (b : Beh) : Prop := ∃ f D C Fc, v = .ref f ∧ Thunk P w K mg base k 0 D C Fc f (fun _ _ R RX => b R RX) ∧ Ex D H ∧ Dj C F ∧ Ex Fc F
section
variable {P : Program} {w : World} {K : PySem.W.Frag} {mg : Str → Option Value} {base : Heap} {k np : Nat} {z : Zn} {F H F' H' : Hp} {v : V} {b : Beh} {n : Nat}
theorem ClosAt.grow (c : ClosAt P w K mg base k H F v b) (s : Stm z n H) (g : Grow z F H F' H') : ClosAt P w K mg base k H' F' v b := by
  obtain ⟨f, D, C, Fc, e, T, h1, h2, h3⟩ := c
  obtain ⟨q1, q2⟩ := h2.grow T.cells h1 T.ext (Stm.dj s h1 T.ext) g
  exact ⟨f, D, C, Fc, e, T, q2, q1, h3.trans g.ext⟩
theorem ClosAt.grow0 (c : ClosAt P w K mg base k H F v b) (g : Grow z0 F H F' H') : ClosAt P w K mg base k H' F' v b := by
  obtain ⟨f, D, C, Fc, e, T, h1, h2, h3⟩ := c
  obtain ⟨q1, q2⟩ := h2.grow T.cells h1 T.ext (fun _ _ _ => zv_z0) g
  exact ⟨f, D, C, Fc, e, T, q2, q1, h3.trans g.ext⟩
/-- the promise of «try: return ("told", ask()) / except C as e: return (word, e.field) ..»: Cs tells class, word, field -/
def spMet (P : Program) (w : World) (K : PySem.W.Frag) (mg : Str → Option Value) (base : Heap) (k : Nat) (Cs : List (Addr × Str × Str)) : Sp := fun vs H Q _ => ∃ f F b R RX, vs = [f] ∧ ClosAt P w K mg base k H F f b ∧ Ex F H ∧ b R RX ∧
  (∀ v d H' F' t, Grow z0 F H F' H' → Rp F' v d → R d → H' t = none → Q (.ref t) (L2.upd H' t (.tup [.str "told", v]))) ∧
  (∀ cls fld v d H' F', Grow z0 F H F' H' → Rp F' v d → RX cls fld v d → ∃ C wd, (C, wd, fld) ∈ Cs ∧ cls = .ref C ∧ ∀ t, H' t = none → Q (.ref t) (L2.upd H' t (.tup [.str wd, v])))
/-- what a met closure ends as, as data -/
def MetOk (Cs : List (Addr × Str × Str)) (b : Beh) (m : PyData) : Prop := b (fun d => m = .tuple [.str "told", d]) (fun cls fld _ d => ∃ C wd, (C, wd, fld) ∈ Cs ∧ cls = .ref C ∧ m = .tuple [.str wd, d])
/-- the promise of a def that hands back a list of closures -/
def spC (P : Program) (w : World) (K : PySem.W.Frag) (mg : Str → Option Value) (base : Heap) (T : List (Addr × Str)) (k np : Nat) (csp : List V → List PyData → List Beh → Prop) : Sp := fun vs H Q _ => vs.length = np ∧ ∃ F ds B, Ex F H ∧ RpA F vs ds ∧ csp vs ds B ∧ Tabs T H ∧ (∀ p ∈ T, F p.1 = none) ∧
  ∀ l H' fs, Grow (zT T) F H F H' → Tabs T H' → H l = none → H' l = some (.lst fs) → Paired (ClosAt P w K mg base k H' F) fs B → Q (.ref l) H'
end
theorem Paired.getP {α β : Type} {R : α → β → Prop} : ∀ {l : List α} {m : List β} {i : Nat} {a : α}, Paired R l m → l[i]? = some a → ∃ b, m[i]? = some b ∧ R a b
  | _, _, i, a, .nil, h => by simp at h
  | _, _, 0, a, .cons r t, h => by simp at h; subst h; exact ⟨_, rfl, r⟩
  | _, _, i + 1, a, .cons r t, h => by
    obtain ⟨b, h1, h2⟩ := Paired.getP t (by simpa using h)
    exact ⟨b, by simpa using h1, h2⟩
section
variable {P : Program} {w : World} {K : PySem.W.Frag} {mg : Str → Option Value} {base : Heap} {z : Zn} {k np i : Nat} {Cs : List (Addr × Str × Str)} {csp : List V → List PyData → List Beh → Prop} {ta : TA} {wa : WA}
def wMets (i np : Nat) (csp : List V → List PyData → List Beh → Prop) (Cs : List (Addr × Str × Str)) (wa : WA) : WA := fun en P => i < en.s.length ∧ wa en fun ds n => ds.length = np ∧ ∃ ms : List PyData, ms.length ≤ 100000 ∧ (∀ vs, vs.length = np → ∃ B, csp vs ds B ∧ Paired (MetOk Cs) B ms) ∧ P ms n
/-- met(y), y a closure: what comes back stands for m -/
theorem met_turn {F H : Hp} {v : V} {b : Beh} {m : PyData} {Q : VK} (c : ClosAt P w K mg base k H F v b) (e : Ex F H) (hm : MetOk Cs b m) (kk : ∀ u H' F', Grow z0 F H F' H' → Rp F' u m → Q u H') : spMet P w K mg base k Cs [v] H Q E0 := by
  have fin : ∀ (wd : Str) (u : V) (d : PyData) (H' F' : Hp) (t : Addr), Grow z0 F H F' H' → Rp F' u d → H' t = none → m = .tuple [.str wd, d] → Q (.ref t) (L2.upd H' t (.tup [.str wd, u])) := fun wd u d H' F' t g r ht em => by
    subst em
    have hf : F' t = none := none_of_sub g.sub ht
    exact kk _ _ (L2.upd F' t (.tup [.str wd, u])) (g.trans (Grow.laid g.sub ht)) (.tup upd_same (.cons (.str wd) (.one (r.mono (ex_upd hf)))))
  refine ⟨v, F, b, _, _, rfl, c, e, hm, fun u d H' F' t g r hd ht => fin _ u d H' F' t g r ht hd, fun cls fld u d H' F' g r hx => ?_⟩
  obtain ⟨C, wd, h1, h2, h3⟩ := hx
  exact ⟨C, wd, h1, h2, fun t ht => fin wd u d H' F' t g r ht h3⟩
/-- [met(y) for y in asks(..)] -/
theorem den_mets (ha : DenA z ta wa) : DenL z (tLc (iList K (tCall (spC P w K mg base z.T k np csp) [] E0 ta)) (gName i) tYes (tCall (spMet P w K mg base k Cs) [] E0 (tCons (tVar i) tNil)) [i]) (wMets i np csp Cs wa) := by
  intro B σ H F en s Pp Q hw kk
  obtain ⟨hien, hw⟩ := hw
  refine ha B σ H F en s _ _ hw fun vs H1 F1 ds n1 g1 s1 r1 q1 => ?_
  obtain ⟨hl, ms, hml, hB, hP⟩ := q1
  have hvl : vs.length = np := by rw [r1.length]; exact hl
  obtain ⟨bs, hb1, hb2⟩ := hB vs hvl
  rw [List.append_nil]
  have hlen : i < σ.length := by rw [s.len]; exact hien
  refine ⟨hvl, F1, ds, bs, g1.sub, r1, hb1, s1.t, fun p hp => s1.off (F := F) (H := H) (F1 := F1) (z := z) g1 (.inr ⟨p.2, hp⟩) (s.stm.there (.inr ⟨p.2, hp⟩)) (s.off _ (.inr ⟨p.2, hp⟩)), fun l H2 fs g2 t2 hl1 hl2 cl => ?_⟩
  have zz : ∀ c, Zv (zT z.T) c → Zv z c := fun c h => .inr (zv_zT.mp h)
  have g2' : Grow z F1 H1 F1 H2 := g2.widen zz
  have hfs : fs.length = ms.length := (Paired.length cl).trans (Paired.length hb2)
  have s2 : Stm z n1 H2 := by
    refine ⟨?_, t2⟩
    have h0 := s1.s
    generalize ez : z.st = so at h0
    cases so with
    | none => trivial
    | some p =>
      obtain ⟨st, sl⟩ := p
      obtain ⟨ns, c, kk', m, e1, e2, r⟩ := h0
      have nz : ∀ b xs, H1 b = some (.lst xs) → ¬ Zv (zT z.T) b := fun b xs e hzb => by
        obtain ⟨q, hq⟩ := zv_zT.mp hzb
        obtain ⟨ps, e', _⟩ := s1.t _ hq
        rw [e] at e'; cases e'
      exact ⟨ns, c, kk', m, g2.keep _ _ (nz _ _ e1) e1, g2.keep _ _ (nz _ _ e2) e2, r⟩
  have zl : ¬ Zv z l := zv_not s1 hl1
  have fl : F1 l = none := none_of_sub g1.sub hl1
  refine ⟨l, rfl, ⟨fs, SqL.of hl2⟩, fun D hD => ?_⟩
  have zD : ¬ Zv z D := zv_not s2 hD
  have fD : F1 D = none := none_of_sub g2'.sub hD
  have nlD : l ≠ D := ne_of_none hl2 hD
  refine lc_list (xs := fs) (fun i' H' => ∃ F' acc, Grow z F1 H2 F' H' ∧ Stm z n1 H' ∧ F' D = none ∧ H' D = some (.lst acc) ∧ RpA F' acc (ms.take i') ∧ H' l = some (.lst fs)) ⟨F1, [], Grow.fresh g2'.sub hD, s2.new hD, fD, upd_same, .nil, by rw [upd_ne nlD]; exact hl2⟩ (fun i' H' _ h => ?_) (fun i' x H' hx h => ?_) (fun H' h => ?_)
  · obtain ⟨F', acc, _, _, _, _, _, e⟩ := h
    exact SqL.of e
  · obtain ⟨F', acc, g3, s3, f3, d3, r3, l3⟩ := h
    obtain ⟨b, hb, cb⟩ := Paired.getP cl hx
    obtain ⟨m, hm, mb⟩ := Paired.getP hb2 hb
    have cb' := cb.grow s2 g3
    refine ⟨?_, ?_⟩
    · rw [wipe_ext (σ' := (L2.wipe σ [i]).set i (some x)) (σ := L2.wipe σ [i]) (by simp) fun j hj => ?_, wipe_idem]
      have : i ≠ j := fun e => hj (by simp [e])
      rw [List.getElem?_set_ne this]
    · unfold tYes
      simp only [if_true]
      refine ⟨x, by rw [List.getElem?_set_self (by rw [wipe_length]; exact hlen)], ?_⟩
      have up : ∀ Q : VK, spMet P w K mg base k Cs [x] H' Q E0 → tNil ((L2.wipe σ [i]).set i (some x)) H' (fun xs H2 => spMet P w K mg base k Cs ((x :: xs) ++ []) H2 Q E0) := fun Q h => h
      refine up _ ?_
      refine met_turn cb' g3.sub mb fun u H4 F4 g4 r4 => ?_
      have g4' : Grow z F' H' F4 H4 := g4.weak
      have d4 := g4.keep D _ zv_z0 d3
      have l4 := g4.keep l _ zv_z0 l3
      have f4 := g4.apart d3 zv_z0 (fun _ q => nomatch q) f3
      have hi' : i' < ms.length := (List.getElem?_eq_some_iff.mp hm).1
      have rl := r3.length
      refine ⟨acc, d4, Evl.sz_lt (by rw [rl, List.length_take]; omega), F4, acc ++ [u], ?_, (s3.ex g4.ex).upd zD (fun _ q => by rw [d4] at q; cases q), f4, upd_same, ?_, by rw [upd_ne nlD]; exact l4⟩
      · have g5 := g3.trans g4'
        exact { keep := fun b o nz e => by
                  rw [upd_ne (ne_of_none e hD)]; exact g5.keep b o nz e
                dom := fun b e => by
                  by_cases hbD : b = D
                  · rw [hbD, upd_same] at e; cases e
                  · rw [upd_ne hbD] at e; exact g5.dom b e
                ext := g5.ext
                sub := fun b o e => by
                  have hbD : b ≠ D := fun q => by rw [q, f4] at e; cases e
                  rw [upd_ne hbD]; exact g5.sub b o e
                new := g5.new }
      · rw [List.take_add_one, hm]
        exact (r3.mono g4.ext).append (.one r4)
  · obtain ⟨F', acc, g3, s3, f3, d3, r3, l3⟩ := h
    rw [hfs, List.take_length] at r3
    exact kk D acc H' F' ms n1 (g1.trans (g2'.trans g3)) s3 (g1.dom D (g2'.dom D hD)) f3 d3 r3 hP
end
end CL
/-! Closures, 6: lists of lambdas, made one after the other. -/
namespace CL
open PySem PySem.Spec PyProof.Rows L2 LamX NdefX DD
open Evl (Ex)
/-! ### the lambdas of a text, by places -/
def lamsE : Nat → Expr → List Expr
  | 0, _ => []
  | n + 1, e => match e with
    | .Lambda p b s pos => [.Lambda p b s pos]
    | .List es _ => es.flatMap (lamsE n)
    | .Tuple es _ _ => es.flatMap (lamsE n)
    | .BinOp a _ b _ => lamsE n a ++ lamsE n b
    | .Call f es kws _ => es.flatMap (lamsE n)
    | .UnaryOp _ a _ => lamsE n a
    | .BoolOp _ es _ => es.flatMap (lamsE n)
    | _ => []
def lamsS : Nat → Stmt → List Expr
  | 0, _ => []
  | n + 1, st => match st with
    | .Assign _ e _ => lamsE 9 e
    | .Expr e _ => lamsE 9 e
    | .Return (some e) _ => lamsE 9 e
    | .For _ _ body _ _ => body.flatMap (lamsS n)
    | .While _ body _ _ => body.flatMap (lamsS n)
    | .If c a b _ => lamsE 9 c ++ a.flatMap (lamsS n) ++ b.flatMap (lamsS n)
    | _ => []
def lamN (st : Stmt) (i : Nat) : Expr := ((defBody st).flatMap (lamsS 9)).getD i (.Constant .none 0 ⟨0, 0, 0, 0⟩)
def lamP : Expr → Arguments
  | .Lambda p _ _ _ => p
  | _ => { posonlyargs := [], args := [], vararg := none, kwonlyargs := [], kw_defaults := [], kwarg := none, defaults := [] }
def lamB : Expr → Expr
  | .Lambda _ b _ _ => b
  | e => e
def lamSc : Expr → Scope
  | .Lambda _ _ s _ => s
  | _ => { kind := .function, names := [], isGenerator := false, isCoroutine := false, more := [] }
/-- a lambda F has been made at f; the table at P has changed -/
structure LamStep (T : List (Addr × Str)) (P : Addr) (H H1 : Hp) (f : Addr) (F : LF) : Prop where
  k : ∀ b o, b ≠ P → H b = some o → H1 b = some o
  d : ∀ b, H1 b = none → H b = none
  t : Tabs T H1
  f0 : H f = none
  f1 : H1 f = some (LfO f F)
  c1 : H1 F.c = some (CodeO F.c F.q)
theorem lfo_lst {f : Addr} {F : LF} {xs : List V} : LfO f F ≠ .lst xs := fun z => by unfold LfO at z; cases z
theorem codeo_lst {c : Addr} {q : Str} {xs : List V} : CodeO c q ≠ .lst xs := fun z => by unfold CodeO at z; cases z
theorem lfo_tbl {f : Addr} {F : LF} {xs : Array Value} : LfO f F ≠ .tbl xs := fun z => by unfold LfO at z; cases z
section
variable {T : List (Addr × Str)} {P : Addr} {F0 H0 H H1 : Hp} {f l p : Addr} {F : LF} {fs : List (Addr × LF)}
theorem LamStep.grow (s : LamStep T P H H1 f F) (hP : ∃ q, (P, q) ∈ T) (hT : ∀ p ∈ T, F0 p.1 = none) (e : Ex F0 H) : Grow (zT T) F0 H F0 H1 where
  keep := fun b o n h => s.k b o (fun q => n (.inr (by rw [q]; exact hP))) h
  dom := s.d
  ext := Evl.Ex.refl F0
  sub := fun b o h => s.k b o (fun q => by
    obtain ⟨q', hq⟩ := hP
    rw [q, hT _ hq] at h; cases h) (e b o h)
  new := fun _ _ h => .inl h
/-- a list at l of lambdas -/
structure Made (T : List (Addr × Str)) (F0 H0 H : Hp) (l : Addr) (fs : List (Addr × LF)) : Prop where
  g : Grow (zT T) F0 H0 F0 H
  t : Tabs T H
  hl : H l = some (.lst (fs.map fun p => V.ref p.1))
  l0 : H0 l = none
  e0 : Ex F0 H0
  fns : ∀ p ∈ fs, H p.1 = some (LfO p.1 p.2) ∧ H p.2.c = some (CodeO p.2.c p.2.q)
theorem tabs_upd {T : List (Addr × Str)} {H : Hp} {a : Addr} {o : HO} (t : Tabs T H) (h : (∃ xs, H a = some (.lst xs)) ∨ H a = none) : Tabs T (L2.upd H a o) := fun p hp => by
  obtain ⟨ps, a1, a2, a3⟩ := t p hp
  have ne : ∀ b u, H b = some u → (∀ xs, u ≠ .lst xs) → b ≠ a := fun b u e n q => by
    rw [q] at e
    rcases h with ⟨xs, h⟩ | h
    · rw [h] at e; exact n xs (Option.some.inj e).symm
    · rw [h] at e; cases e
  refine ⟨ps, by rw [upd_ne (ne _ _ a1 fun _ z => nomatch z)]; exact a1, a2, fun pos cv hc => ?_⟩
  obtain ⟨c, e1, e2⟩ := a3 pos cv hc
  exact ⟨c, e1, by rw [upd_ne (ne _ _ e2 fun _ => codeo_lst)]; exact e2⟩
theorem Made.one (s : LamStep T P H0 H1 f F) (hP : ∃ q, (P, q) ∈ T) (hT : ∀ p ∈ T, F0 p.1 = none) (e : Ex F0 H0) (hp : H1 p = none) : Made T F0 H0 (L2.upd H1 p (.lst [.ref f])) p [(f, F)] where
  g := (s.grow hP hT e).trans (Grow.fresh (s.grow hP hT e).sub hp)
  t := tabs_upd s.t (.inr hp)
  hl := upd_same
  l0 := s.d _ hp
  e0 := e
  fns := fun q hq => by
    simp only [List.mem_singleton] at hq
    subst hq
    exact ⟨by rw [upd_ne (ne_of_none s.f1 hp)]; exact s.f1, by rw [upd_ne (ne_of_none s.c1 hp)]; exact s.c1⟩
theorem Made.step (m : Made T F0 H0 H l fs) (s : LamStep T P H H1 f F) (hP : ∃ q, (P, q) ∈ T) (hT : ∀ p ∈ T, F0 p.1 = none) (hl : l ≠ P) (hf : ∀ p ∈ fs, p.1 ≠ P ∧ p.2.c ≠ P) :
    Grow (zT T) F0 H0 F0 H1 ∧ H1 l = some (.lst (fs.map fun p => V.ref p.1)) ∧ ∀ p ∈ fs ++ [(f, F)], H1 p.1 = some (LfO p.1 p.2) ∧ H1 p.2.c = some (CodeO p.2.c p.2.q) := by
  refine ⟨m.g.trans (s.grow hP hT m.g.sub), s.k _ _ hl m.hl, fun p hp => ?_⟩
  rcases List.mem_append.mp hp with h | h
  · exact ⟨s.k _ _ (hf p h).1 (m.fns p h).1, s.k _ _ (hf p h).2 (m.fns p h).2⟩
  · simp only [List.mem_singleton] at h
    subst h
    exact ⟨s.f1, s.c1⟩
theorem Made.apart (m : Made T F0 H0 H l fs) (hP : ∃ q, (P, q) ∈ T) : l ≠ P ∧ ∀ p ∈ fs, p.1 ≠ P ∧ p.2.c ≠ P := by
  obtain ⟨q, hq⟩ := hP
  obtain ⟨ps, e, _⟩ := m.t _ hq
  have ne : ∀ b u, H b = some u → (∀ xs, u ≠ .tbl xs) → b ≠ P := fun b u e1 n z => by
    rw [z] at e1
    have e : H P = some (.tbl ps) := e
    rw [e] at e1; exact n ps (Option.some.inj e1).symm
  refine ⟨ne _ _ m.hl (fun _ z => (nomatch z)), fun p hp => ⟨ne _ _ (m.fns p hp).1 fun _ => lfo_tbl, ne _ _ (m.fns p hp).2 fun _ => codeO_ne _⟩⟩
theorem Made.at_ (m : Made T F0 H0 H l fs) (s : LamStep T P H H1 f F) (hP : ∃ q, (P, q) ∈ T) : H1 l = some (.lst (fs.map fun p => V.ref p.1)) := s.k _ _ (m.apart hP).1 m.hl
theorem Made.app (m : Made T F0 H0 H l fs) (s : LamStep T P H H1 f F) (hP : ∃ q, (P, q) ∈ T) (hT : ∀ p ∈ T, F0 p.1 = none) : Made T F0 H0 (L2.upd H1 l (.lst ((fs.map fun p => V.ref p.1) ++ [.ref f]))) l (fs ++ [(f, F)]) := by
  obtain ⟨a1, a2⟩ := m.apart hP
  obtain ⟨g, hl, hf⟩ := m.step s hP hT a1 a2
  have fl : F0 l = none := none_of_sub m.e0 m.l0
  refine ⟨g.wroteO m.l0 fl, tabs_upd s.t (.inl ⟨_, hl⟩), by rw [upd_same, List.map_append]; rfl, m.l0, m.e0, fun p hp => ?_⟩
  have n : ∀ b u, H1 b = some u → (∀ xs, u ≠ .lst xs) → b ≠ l := fun b u e1 n z => by
    rw [z, hl] at e1
    exact n _ (Option.some.inj e1).symm
  obtain ⟨b1, b2⟩ := hf p hp
  exact ⟨by rw [upd_ne (n _ _ b1 fun _ => lfo_lst)]; exact b1, by rw [upd_ne (n _ _ b2 fun _ => codeo_lst)]; exact b2⟩
/-- found + [lambda] -/
theorem Made.cat {p1 p2 : Addr} (m : Made T F0 H0 H l fs) (s : LamStep T P H H1 f F) (hP : ∃ q, (P, q) ∈ T) (hT : ∀ p ∈ T, F0 p.1 = none) (h1 : H1 p1 = none) (h2 : L2.upd H1 p1 (.lst [.ref f]) p2 = none) :
    L2.upd H1 p1 (.lst [.ref f]) l = some (.lst (fs.map fun p => V.ref p.1)) ∧ Made T F0 H0 (L2.upd (L2.upd H1 p1 (.lst [.ref f])) p2 (.lst ((fs.map fun p => V.ref p.1) ++ [.ref f]))) p2 (fs ++ [(f, F)]) := by
  obtain ⟨a1, a2⟩ := m.apart hP
  obtain ⟨g, hl, hf⟩ := m.step s hP hT a1 a2
  have g1 : Grow (zT T) F0 H0 F0 (L2.upd H1 p1 (.lst [.ref f])) := g.trans (Grow.fresh g.sub h1)
  refine ⟨by rw [upd_ne (ne_of_none hl h1)]; exact hl, ⟨g1.trans (Grow.fresh g1.sub h2), tabs_upd (tabs_upd s.t (.inr h1)) (.inr h2), by rw [upd_same, List.map_append]; rfl, g1.dom _ h2, m.e0, fun p hp => ?_⟩⟩
  obtain ⟨b1, b2⟩ := hf p hp
  have k : ∀ b u, H1 b = some u → L2.upd (L2.upd H1 p1 (.lst [.ref f])) p2 (.lst ((fs.map fun p => V.ref p.1) ++ [.ref f])) b = some u := fun b u e => by
    have e' : L2.upd H1 p1 (.lst [.ref f]) b = some u := by rw [upd_ne (ne_of_none e h1)]; exact e
    rw [upd_ne (ne_of_none e' h2)]; exact e'
  exact ⟨k _ _ b1, k _ _ b2⟩
/-- .. the frame's cells told beside it -/
theorem Made.told {G : Hp} {C : List Addr} (m : Made T F0 H0 H l fs) (hn : ∀ c ∈ C, H c = none) (hG : ∀ c ∈ C, G c ≠ none) : Grow (zT T) F0 H0 F0 (put H G C) ∧ Tabs T (put H G C) ∧ put H G C l = some (.lst (fs.map fun p => V.ref p.1)) := by
  have k : ∀ b u, H b = some u → put H G C b = some u := fun b u e => by
    have hb : b ∉ C := fun z => by rw [hn b z] at e; cases e
    rw [put_out hb]; exact e
  refine ⟨⟨fun b o n e => k b o (m.g.keep b o n e), fun b e => ?_, Evl.Ex.refl F0, fun b o e => k b o (m.g.sub b o e), fun _ _ h => .inl h⟩, m.t.ext k, k _ _ m.hl⟩
  by_cases hb : b ∈ C
  · rw [put_in hb] at e
    exact absurd e (hG b hb)
  · rw [put_out hb] at e
    exact m.g.dom b e
end
end CL
/-! Closures, 7: closures whose bodies are read by hand (they call closures). -/
namespace CL
open PySem PySem.Spec PyProof.Rows L2 LamX NdefX DD
open Evl (Ex)
section
variable {P : Program} {w : World} {K : PySem.W.Frag} {mg : Str → Option Value} {base : Heap} {N ps fr : List Str} {F : LF} {f : Addr} {k : Nat} {C : List Addr} {ws : List V} {D Fc : Hp} {ob : XSp}
/-- .. by a reading of its body; Da: what else stands in the heap -/
theorem thunk_ofV {Da : Hp} (S : NScope N ps fr F.scope) (hbd : ∀ (pm ctv : Value) (us : List Value), us.length = ps.length → bindArgs (PySem.W.kla_fn "<lambda>" F.q F.params F.body F.scope F.cl pm (.ref F.c) ctv) ⟨us, []⟩ = pure (ps.zip us))
    (dE : ∀ b o, D b = some o → ∃ φ, o = .ext φ) (df : D f = some (LfO f F)) (dc : D F.c = some (CodeO F.c F.q)) (cd : CellsD D F fr ws C) 
    (hDa : Ex Da D) (hDaC : ∀ b o, Da b = some o → b ∉ C)
    (hbody : ∀ (A : Around) (outer : List Env) (s : Shared) (H : Hp) (E : XK), Room k (A.deeper (envF F.nf f s.heap.objs.size)) → Takes (ncx (L2.CX P w) P w K mg base N F.nf f A outer s H E) (fun cls d _ H => (zX E).W cls d H) →
      ∃ t, PE (ncx (L2.CX P w) P w K mg base N F.nf f A outer s H E) F.body t ∧ ∀ (vs : List V) (ds : List PyData) (R : PyData → Prop) (RX : Value → Str → V → PyData → Prop) (F0 : Hp) (Q : VK), vs.length = ps.length → ob vs ds R RX → RpA F0 vs ds → Ex Da H → Ex Fc F0 → Ex F0 H → Outs z0 F0 H R RX Q E → t (startF N vs (ws.map some)) H Q) :
    Thunk P w K mg base (k + 1) ps.length D C Fc f ob := by
  refine ⟨dE, fun c hc => (cd.all c hc).elim fun o h => ⟨_, h.choose_spec.1⟩, ⟨F, df⟩, fun A outer s H F0 us vs ds R RX Q E hr e0 hD hDj hFc hF r ra hl hob out => ?_⟩
  have hC : ∀ c ∈ C, ∃ o, H c = some (CellX c o) := fun c hc => by
    obtain ⟨o, u, e, _⟩ := cd.all c hc
    exact ⟨o, hD c _ e⟩
  have cell : ∀ c ∈ C, ∃ o u, s.heap.get? c = some o ∧ o.data = .cell u := fun c hc => by
    obtain ⟨o, u, e, h⟩ := cd.all c hc
    exact ⟨o, u, cell_at e0.hok (hD c _ e), h⟩
  have nf : f ∉ C := fun q => by
    obtain ⟨o, u, e1, e2⟩ := cell f q
    obtain ⟨_, _, e3⟩ := lf_at e0.hok (hD f _ df)
    rw [e1] at e3
    cases e3
    cases e2
  have nc : F.c ∉ C := fun q => by
    obtain ⟨o, u, e1, e2⟩ := cell _ q
    obtain ⟨_, oc, vs, t, e0', e3, e4, _⟩ := codeO_at e0.hok (hD F.c _ dc)
    cases e0'
    rw [e1] at e3
    cases e3
    rw [e2] at e4
    cases e4
  refine codeAny_mono (lam_go (N := N) (fr := fr) (ws := ws.map some) S hbd hr (env0_off e0 hC) (by rw [off_out nf]; exact hD f _ df) (by rw [off_out nc]; exact hD _ _ dc) ?_ r hl fun hr' => ?_) fun r s' h => cr_on e0 hC h
  · refine ⟨by rw [List.length_map]; exact cd.len, fun y c e => ⟨off_in (cd.cl y c e), ?_⟩, cd.inj, fun i y e => ?_⟩
    · obtain ⟨o, u, e1, e2⟩ := cell c (cd.cl y c e)
      exact ⟨u, o, e1, e2⟩
    · obtain ⟨c, o, u, v, h1, h2, h3, h4, h5⟩ := cd.val i y e
      refine ⟨c, h1, fun v' hv => ⟨u, ?_, o, cell_at e0.hok (hD c _ h2), h3⟩⟩
      rw [List.getElem?_map, h4] at hv
      cases hv
      exact h5
  · have eF : Ex F0 (off H C) := fun b u e => by
      have hb : b ∉ C := fun q => by
        rw [hDj b q] at e
        cases e
      rw [off_out hb]
      exact hF b u e
    have eDa : Ex Da (off H C) := fun b u e => by
      rw [off_out (hDaC b u e)]
      exact hD b u (hDa b u e)
    have tk : Takes (ncx (L2.CX P w) P w K mg base N F.nf f A outer s (off H C) fun cls d H' => (∀ c ∈ C, H' c = none) → E cls d (put H' H C)) (fun cls d _ H1 => (zX fun cls d H' => (∀ c ∈ C, H' c = none) → E cls d (put H' H C)).W cls d H1) := takes_of rfl rfl rfl rfl
    obtain ⟨t, pe, hw⟩ := hbody A outer s (off H C) (fun cls d H' => (∀ c ∈ C, H' c = none) → E cls d (put H' H C)) hr' tk
    refine ⟨t, pe, hw vs ds R RX F0 _ hl hob ra eDa hFc eF ⟨fun v H' F' d g _ rr q hn => ?_, fun cls v d f dx H' F' g hd rr q hn => ?_⟩⟩
    · exact out.rt v _ F' d (grow_put g (fun c h => h) hn) (fun _ q => nomatch q) rr q
    · have hb : dx ∉ C := fun q => by rw [hn dx q] at hd; cases hd
      exact out.xx cls v d f dx _ F' (grow_put g (fun c h => h) hn) (by rw [put_out hb]; exact hd) rr q
end
theorem Thunk.mono {P : Program} {w : World} {K : PySem.W.Frag} {mg : Str → Option Value} {base : Heap} {j k np : Nat} {D Fc : Hp} {C : List Addr} {f : Addr} {ob : XSp} (T : Thunk P w K mg base j np D C Fc f ob) (h : j ≤ k) : Thunk P w K mg base k np D C Fc f ob :=
  ⟨T.ext, T.cells, T.fn, fun A outer s H F us vs ds R RX Q E hr => T.run A outer s H F us vs ds R RX Q E (hr.mono h)⟩
/-- the objects of a closure, and others -/
def dOfV (f c' : Addr) (H G Da : Hp) (C : List Addr) : Hp := fun b => if b ∈ C then G b else if b = f ∨ b = c' then H b else Da b
section
variable {X : Cx} {σ : L2.St} {G H1 : Hp} {C : List Addr} {f c' : Addr} {q : Str} {params : Arguments} {body : Expr} {scope : Scope} {N ps fr : List Str} {js : List Nat} {k : Nat} {ws : List V} {Fc : Hp} {ob : XSp}
theorem mk_thunkV {Da : Hp} (tl : Tells X σ G C) (hn : ∀ c ∈ C, H1 c = none) (hf : H1 f = some (LfO f (mkLam q params body scope X.env.cells c'))) (hc : H1 c' = some (CodeO c' q)) (S : NScope N ps fr scope)
    (hbd : ∀ (cl : List (Str × Addr)) (pm ctv : Value) (us : List Value), us.length = ps.length → bindArgs (PySem.W.kla_fn "<lambda>" q params body scope cl pm (.ref c') ctv) ⟨us, []⟩ = pure (ps.zip us))
    (hfr : ∀ y ∈ fr, (y, NameKind.free) ∈ scope.names) (hkin : ∀ y ∈ scope.names, y.2 = .free → X.env.scope.names.lookup y.1 = some .cell ∨ X.env.scope.names.lookup y.1 = some .free) (hjs : js.map (fun j => X.N[j]?) = fr.map some) (hσ : js.map (fun j => σ[j]?) = ws.map fun v => some (some v)) (hDx : ∀ b o, Da b = some o → ∃ φ, o = .ext φ) (hDa : Ex Da H1)
    (hbody : ∀ (A : Around) (outer : List Env) (s : Shared) (H : Hp) (E : XK), Room k (A.deeper (envF (mkLam q params body scope X.env.cells c').nf f s.heap.objs.size)) → Takes (ncx (L2.CX X.prog X.w) X.prog X.w X.K X.mg X.base N (mkLam q params body scope X.env.cells c').nf f A outer s H E) (fun cls d _ H => (zX E).W cls d H) →
      ∃ t, PE (ncx (L2.CX X.prog X.w) X.prog X.w X.K X.mg X.base N (mkLam q params body scope X.env.cells c').nf f A outer s H E) body t ∧ ∀ (vs : List V) (ds : List PyData) (R : PyData → Prop) (RX : Value → Str → V → PyData → Prop) (F0 : Hp) (Q : VK), vs.length = ps.length → ob vs ds R RX → RpA F0 vs ds → Ex Da H → Ex Fc F0 → Ex F0 H → Outs z0 F0 H R RX Q E → t (startF N vs (ws.map some)) H Q) :
    Thunk X.prog X.w X.K X.mg X.base (k + 1) ps.length (dOfV f c' H1 G Da C) C Fc f ob ∧ Ex (dOfV f c' H1 G Da C) (put H1 G C) ∧ ∀ F, Ex F H1 → Dj C F := by
  have nf : f ∉ C := fun z => by rw [hn f z] at hf; cases hf
  have nc : c' ∉ C := fun z => by rw [hn c' z] at hc; cases hc
  have free : ∀ y ∈ scope.names, y.2 = .free → ∃ c, X.env.cells.lookup y.1 = some c := fun y hy e => tl.has _ (hkin y hy e)
  have dC : ∀ c ∈ C, dOfV f c' H1 G Da C c = G c := fun c h => if_pos h
  have df : dOfV f c' H1 G Da C f = some (LfO f (mkLam q params body scope X.env.cells c')) := by unfold dOfV; rw [if_neg nf, if_pos (.inl rfl)]; exact hf
  have dc : dOfV f c' H1 G Da C c' = some (CodeO c' q) := by unfold dOfV; rw [if_neg nc, if_pos (.inr rfl)]; exact hc
  have cases_ : ∀ b o, dOfV f c' H1 G Da C b = some o → (b ∈ C ∧ G b = some o) ∨ (b ∉ C ∧ ((b = f ∨ b = c') ∨ Da b = some o) ∧ H1 b = some o) := fun b o h => by
    unfold dOfV at h
    by_cases h1 : b ∈ C
    · rw [if_pos h1] at h; exact .inl ⟨h1, h⟩
    · rw [if_neg h1] at h
      by_cases h2 : b = f ∨ b = c'
      · rw [if_pos h2] at h; exact .inr ⟨h1, .inl h2, h⟩
      · rw [if_neg h2] at h; exact .inr ⟨h1, .inr h, hDa b o h⟩
  have cf : ∀ {y : Str} {c : Addr}, (cloFrom X.env.cells scope.names []).lookup y = some c → X.env.cells.lookup y = some c := fun e => clo_cm free e
  have lens : js.length = fr.length ∧ js.length = ws.length := ⟨by simpa using congrArg List.length hjs, by simpa using congrArg List.length hσ⟩
  have nDa : ∀ b o, Da b = some o → b ∉ C := fun b o h q => by
    have := hDa b o h
    rw [hn b q] at this; cases this
  refine ⟨thunk_ofV (Da := Da) (F := mkLam q params body scope X.env.cells c') S (fun pm ctv us => hbd _ pm ctv us) (fun b o h => ?_) df dc ⟨fun c h => ?_, fun y c h => tl.cl y c (cf h), fun x y c h1 h2 => tl.inj x y c (cf h1) (cf h2), lens.2.symm.trans lens.1, fun i y h => ?_⟩ (fun b o h => ?_) nDa hbody, fun b o h => ?_, fun F h c hcC => ?_⟩
  · rcases cases_ b o h with ⟨h1, h2⟩ | ⟨_, (rfl | rfl) | h3, h2⟩
    · obtain ⟨o', u, e, _⟩ := tl.all b h1
      rw [e] at h2
      cases h2
      exact ⟨_, rfl⟩
    · rw [hf] at h2; cases h2; exact ⟨_, rfl⟩
    · rw [hc] at h2; cases h2; exact ⟨_, rfl⟩
    · exact hDx b o h3
  · obtain ⟨o', u, e, d⟩ := tl.all c h
    exact ⟨o', u, by rw [dC c h]; exact e, d⟩
  · have hi : i < js.length := by
      rw [lens.1]; exact (List.getElem?_eq_some_iff.mp h).1
    have e1 : X.N[js[i]]? = some y := by
      have := congrArg (fun l => l[i]?) hjs
      simp only [List.getElem?_map] at this
      rw [List.getElem?_eq_getElem hi, h] at this
      exact Option.some.inj this
    obtain ⟨v, e2, e3⟩ : ∃ v, ws[i]? = some v ∧ σ[js[i]]? = some (some v) := by
      have := congrArg (fun l => l[i]?) hσ
      simp only [List.getElem?_map] at this
      rw [List.getElem?_eq_getElem hi] at this
      cases hw : ws[i]? with
      | none => rw [hw] at this; cases this
      | some v => rw [hw] at this; exact ⟨v, rfl, Option.some.inj this⟩
    have yin := hfr y (List.mem_of_getElem? h)
    obtain ⟨c, o, u, g1, g2, g3, g4⟩ := tl.val y js[i] v e1 e3 (hkin _ yin rfl)
    exact ⟨c, o, u, v, clo_has free yin g1, by rw [dC c (tl.cl y c g1)]; exact g2, g3, e2, g4⟩
  · unfold dOfV
    rw [if_neg (nDa b o h)]
    by_cases h2 : b = f ∨ b = c'
    · rw [if_pos h2]; exact hDa b o h
    · rw [if_neg h2]; exact h
  · rcases cases_ b o h with ⟨h1, h2⟩ | ⟨h1, _, h2⟩
    · rw [put_in h1]; exact h2
    · rw [put_out h1]; exact h2
  · cases e : F c with
    | none => rfl
    | some u => have := h c u e; rw [hn c hcC] at this; cases this
end
/-- a frame without cells -/
theorem tells_none {X : Cx} {σ : L2.St} (hc : X.env.cells = []) (hs : X.env.scope.names.all (fun p => match p.2 with
    | .cell => false
    | .free => false
    | _ => true) = true) : Tells X σ (fun _ => none) [] := by
  have no : ∀ y, ¬ (X.env.scope.names.lookup y = some .cell ∨ X.env.scope.names.lookup y = some .free) := fun y h => by
    rw [List.all_eq_true] at hs
    rcases h with h | h <;> exact absurd (hs _ (PySem.mem_of_lookup h)) (by simp)
  refine ⟨fun x y c h => ?_, fun y h => absurd h (no y), fun y c h => ?_, fun c h => (nomatch h), fun c h => (nomatch h), fun y j v _ _ h => absurd h (no y)⟩
  · rw [hc] at h; cases h
  · rw [hc] at h; cases h
/-- the promise of _law_is_very(word, ask) -/
def spVery (P : Program) (w : World) (K : PySem.W.Frag) (mg : Str → Option Value) (base : Heap) (T : List (Addr × Str)) (k : Nat) (Cs : List (Addr × Str × Str)) : Sp := fun vs H Q _ => ∃ (word : Str) (f : Addr) (D Fc F : Hp) (ob : XSp) (C : Addr) (fld : Str), vs = [.str word, .ref f] ∧ (C, word, fld) ∈ Cs ∧ Thunk P w K mg base k 1 D [] Fc f ob ∧ Ex D H ∧ Ex Fc F ∧ Ex F H ∧ (∀ p ∈ T, F p.1 = none) ∧
  (∀ v R RX, RX (.ref C) fld v (.list [.str "odd"]) → ob [v] [.list [.str "odd"]] R RX) ∧ Tabs T H ∧ ∀ H' F', Grow (zT T) F H F' H' → Tabs T H' → Q (.bl true) H'
end CL
/-! Closures, 8: what a law does with lists of closures. -/
namespace CL
open PySem PySem.Spec PyProof.Rows L2 LamX NdefX DD
open Evl (Ex)
theorem Tabs.grow {T : List (Addr × Str)} {F H F' H' : Hp} (t : Tabs T H) (g : Grow z0 F H F' H') : Tabs T H' := t.ext fun b u e => g.keep b u zv_z0 e
theorem tabs_not {T : List (Addr × Str)} {H : Hp} {a : Addr} {o : HO} (t : Tabs T H) (e : H a = some o) (n : ∀ xs, o ≠ .tbl xs) : ¬ Zv (zT T) a := fun hz => by
  obtain ⟨q, hq⟩ := zv_zT.mp hz
  obtain ⟨ps, e', _⟩ := t _ hq
  have e' : H a = some (.tbl ps) := e'
  rw [e] at e'
  exact n _ (Option.some.inj e')
section
variable {P : Program} {w : World} {K : PySem.W.Frag} {mg : Str → Option Value} {base : Heap} {k : Nat} {T : List (Addr × Str)} {Cs : List (Addr × Str × Str)} {F H F' H' : Hp} {v : V}
/-- v is a tuple of a word and a closure that refuses with the very object -/
def VeryAt (P : Program) (w : World) (K : PySem.W.Frag) (mg : Str → Option Value) (base : Heap) (k : Nat) (Cs : List (Addr × Str × Str)) (H F : Hp) (v : V) : Prop := ∃ (t : Addr) (word : Str) (f : Addr) (D Fc : Hp) (ob : XSp) (C : Addr) (fld : Str), v = .ref t ∧ H t = some (.tup [.str word, .ref f]) ∧ (C, word, fld) ∈ Cs ∧ Thunk P w K mg base k 1 D [] Fc f ob ∧ Ex D H ∧ Ex Fc F ∧ (∀ v R RX, RX (.ref C) fld v (.list [.str "odd"]) → ob [v] [.list [.str "odd"]] R RX)
theorem VeryAt.grow (c : VeryAt P w K mg base k Cs H F v) (t : Tabs T H) (g : Grow (zT T) F H F' H') : VeryAt P w K mg base k Cs H' F' v := by
  obtain ⟨a, word, f, D, Fc, ob, C, fld, e1, e2, e3, e4, e5, e6, e7⟩ := c
  refine ⟨a, word, f, D, Fc, ob, C, fld, e1, g.keep _ _ (tabs_not t e2 fun _ z => (nomatch z)) e2, e3, e4, fun b u e => ?_, e6.trans g.ext, e7⟩
  have := e5 b u e
  refine g.keep _ _ (tabs_not t this fun _ z => ?_) this
  obtain ⟨φ, q⟩ := e4.ext b u e
  rw [q] at z; cases z
/-- all([very(word, ask) for word, ask in asks]) -/
theorem tail_all {K' : PySem.W.Frag} {σ : L2.St} {l : Addr} {ts : List V} {i iw ik : Nat} {Q : VK} (hσ : σ[i]? = some (some (.ref l))) (hl : H l = some (.lst ts)) (ht : ∀ v ∈ ts, VeryAt P w K mg base k Cs H F v) (eF : Ex F H) (hT : Tabs T H) (hF : ∀ p ∈ T, F p.1 = none) (hn : ts.length ≤ 1000)
    (hw : iw < σ.length) (hk : ik < σ.length) (hne : iw ≠ ik) (gsq : TG) (hg : ∀ (p : Addr) (a b : V) (σ : L2.St) (H : Hp) (R : L2.St → Hp → Prop), H p = some (.tup [a, b]) → R ((σ.set iw (some a)).set ik (some b)) H → gsq (.ref p) σ H R)
    (kk : ∀ H' F', Grow (zT T) F H F' H' → Tabs T H' → Q (.bl true) H') :
    tCB (rAll K') (tCons (tLc (iList K (tVar i)) gsq tYes (tCall (spVery P w K mg base T k Cs) [] E0 (tCons (tVar iw) (tCons (tVar ik) tNil))) [iw, ik]) tNil) σ H Q := by
  refine ⟨.ref l, hσ, l, rfl, ⟨ts, SqL.of hl⟩, fun D hD => ?_⟩
  have nD : l ≠ D := ne_of_none hl hD
  have fD : F D = none := none_of_sub eF hD
  have nT : ∀ {H' : Hp}, Tabs T H' → H' D = none → ¬ Zv (zT T) D := fun {H'} t e hz => by
    obtain ⟨q, hq⟩ := zv_zT.mp hz
    obtain ⟨ps, e', _⟩ := t _ hq
    have e' : H' D = some (.tbl ps) := e'
    rw [e] at e'; cases e'
  have zD := nT hT hD
  refine lc_list (xs := ts) (fun i' H' => ∃ F', Grow (zT T) F H F' H' ∧ Tabs T H' ∧ (∀ p ∈ T, F' p.1 = none) ∧ F' D = none ∧ H' D = some (.lst (List.replicate i' (.bl true)))) ⟨F, Grow.fresh eF hD, tabs_upd hT (.inr hD), hF, fD, upd_same⟩ (fun i' H' _ h => ?_) (fun i' x H' hx h => ?_) (fun H' h => ?_)
  · obtain ⟨F', g, t, _, _, _⟩ := h
    exact SqL.of (g.keep _ _ (tabs_not hT hl fun _ z => (nomatch z)) hl)
  · obtain ⟨F', g, t, hF', f3, d3⟩ := h
    obtain ⟨a, word, f, Da, Fc, ob, C, fld, e1, e2, e3, e4, e5, e6, e7⟩ := (ht x (List.mem_of_getElem? hx)).grow hT g
    subst e1
    refine hg a (.str word) (.ref f) _ H' _ e2 ⟨?_, ?_⟩
    · rw [wipe_ext (σ' := ((L2.wipe σ [iw, ik]).set iw (some (.str word))).set ik (some (.ref f))) (σ := L2.wipe σ [iw, ik]) (by simp) fun j hj => ?_, wipe_idem]
      have h1 : iw ≠ j := fun e => hj (by simp [e])
      have h2 : ik ≠ j := fun e => hj (by simp [e])
      rw [List.getElem?_set_ne h2, List.getElem?_set_ne h1]
    · unfold tYes
      simp only [if_true]
      have len : (L2.wipe σ [iw, ik]).length = σ.length := wipe_length ..
      refine ⟨.str word, by rw [List.getElem?_set_ne (Ne.symm hne), List.getElem?_set_self (by rw [len]; exact hw)], .ref f, by rw [List.getElem?_set_self (by rw [List.length_set, len]; exact hk)], ?_⟩
      refine ⟨word, f, Da, Fc, F', ob, C, fld, rfl, e3, e4, e5, e6, g.sub, hF', e7, t, fun H4 F4 g4 t4 => ?_⟩
      have d4 := g4.keep D _ zD d3
      have f4 := g4.apart d3 zD (fun _ q => nomatch q) f3
      have hi' : i' < ts.length := (List.getElem?_eq_some_iff.mp hx).1
      refine ⟨_, d4, Evl.sz_lt (by rw [List.length_replicate]; omega), F4, (g.trans g4).wroteO hD f4, tabs_upd t4 (.inl ⟨_, d4⟩), fun p hp => ?_, f4, by rw [upd_same, List.replicate_succ']⟩
      obtain ⟨ps, ep, _⟩ := t _ hp
      have ep : H' p.1 = some (.tbl ps) := ep
      cases e : F4 p.1 with
      | none => rfl
      | some u =>
        rcases g4.new p.1 (by rw [ep]; simp) (hF' p hp) with z | ⟨xs, z⟩
        · rw [z] at e; cases e
        · have := g4.sub _ _ z
          obtain ⟨ps', ep', _⟩ := t4 _ hp
          have ep' : H4 p.1 = some (.tbl ps') := ep'
          rw [this] at ep'; cases ep'
  · obtain ⟨F', g, t, _, _, d3⟩ := h
    refine ⟨D, List.replicate ts.length true, rfl, SqL.of (by rw [List.map_replicate]; exact d3), ?_⟩
    have : (List.replicate ts.length true).all id = true := by rw [List.all_eq_true]; intro x hx; rw [List.eq_of_mem_replicate hx]; rfl
    rw [this]
    exact kk H' F' g t
end
section
variable {z : Zn} {X : Cx} {tg iter elt : Expr} {es : List Expr} {pos : Pos} {scope : Scope} {ta : TA} {wa : WA} {i k np : Nat} {csp : List V → List PyData → List Beh → Prop} {Cs : List (Addr × Str × Str)} {wg : En → PyData → (En → Prop) → Prop} {js : List Nat}
theorem jl_mets {T : List (Addr × Str)} (own : List (Str × Nat)) (hN : X.N.Nodup) (ha : JA z X es ta wa) (hi : PA X es ta → PE X iter (tCall (spC X.prog X.w X.K X.mg X.base T k np csp) [] E0 ta)) (ok : blkC X.N X.env.scope scope own = true)
    (hg : ∀ (s : Shared) (H : Hp) (C : Addr) (cl : List (Str × Addr)) (fp : List Addr), JG z (X.blk s H scope (compEnvC scope cl C X.env) fp) tg (gName i) js wg)
    (he : ∀ (s : Shared) (H : Hp) (C : Addr) (cl : List (Str × Addr)) (fp : List Addr), PE (X.blk s H scope (compEnvC scope cl C X.env) fp) elt (tCall (spMet X.prog X.w X.K X.mg X.base k Cs) [] E0 (tCons (tVar i) tNil))) (hT : z.T = T := by rfl) (hj : own.map (·.2) = [i] := by rfl) (hc : X.calm = true := by rfl)
    (hs : ∀ x, foldedSetIterable iter X.env x = pure x := by intro _; rfl) : JL z X (.ListComp elt [⟨tg, iter, [], 0⟩] scope pos) (tLc (iList X.K (tCall (spC X.prog X.w X.K X.mg X.base T k np csp) [] E0 ta)) (gName i) tYes (tCall (spMet X.prog X.w X.K X.mg X.base k Cs) [] E0 (tCons (tVar i) tNil)) [i]) (wMets i np csp Cs wa) where
  pe := hj ▸ pe_lc hc hN (pi_list (hi ha.pa)) (blkOk_by ok) (fun s H C cl fp => (hg s H C cl fp).pg) (fun s H C cl fp => pts_nil) he hs
  de := by subst hT; exact den_mets ha.de
end
end CL
/-! Owned trees, 1: a value whose lists and tuples are its own (L: where its lists stand; tuples don't change), so that its lists may be changed. -/
namespace OT
open PySem PySem.Spec PyProof.Rows L2 DD
open Evl (Ex)
mutual
/-- no list within -/
def flatT : PyData → Bool
  | .list _ => false
  | .tuple xs => flatTs xs
  | _ => true
def flatTs : List PyData → Bool
  | [] => true
  | x :: xs => flatT x && flatTs xs
end
theorem flatTs_all : ∀ xs : List PyData, flatTs xs = xs.all flatT
  | [] => rfl
  | x :: xs => by rw [flatTs, flatTs_all xs]; rfl
mutual
inductive Own (F H : Hp) : V → PyData → List Addr → Prop
  | flat {v : V} {d : PyData} : flatT d = true → Rp F v d → Own F H v d []
  | lst {a : Addr} {xs : List V} {ds : List PyData} {L : List Addr} : H a = some (.lst xs) → OwnA F H xs ds L → Own F H (.ref a) (.list ds) (a :: L)
  | tup {a : Addr} {xs : List V} {ds : List PyData} {L : List Addr} : H a = some (.tup xs) → OwnA F H xs ds L → Own F H (.ref a) (.tuple ds) L
inductive OwnA (F H : Hp) : List V → List PyData → List Addr → Prop
  | nil : OwnA F H [] [] []
  | cons {v : V} {vs : List V} {d : PyData} {ds : List PyData} {L M : List Addr} : Own F H v d L → OwnA F H vs ds M → OwnA F H (v :: vs) (d :: ds) (L ++ M)
end
mutual
theorem Own.keep {F F' H H' : Hp} (e : Ex F F') (kt : ∀ b xs, H b = some (.tup xs) → H' b = some (.tup xs)) : ∀ {v : V} {d : PyData} {L : List Addr}, (∀ b ∈ L, ∀ o, H b = some o → H' b = some o) → Own F H v d L → Own F' H' v d L
  | _, _, _, _, .flat h r => .flat h (r.mono e)
  | _, _, _, k, .lst h r => .lst (k _ (by simp) _ h) (OwnA.keep e kt (fun b hb => k b (by simp [hb])) r)
  | _, _, _, k, .tup h r => .tup (kt _ _ h) (OwnA.keep e kt k r)
theorem OwnA.keep {F F' H H' : Hp} (e : Ex F F') (kt : ∀ b xs, H b = some (.tup xs) → H' b = some (.tup xs)) : ∀ {v : List V} {d : List PyData} {L : List Addr}, (∀ b ∈ L, ∀ o, H b = some o → H' b = some o) → OwnA F H v d L → OwnA F' H' v d L
  | _, _, _, _, .nil => .nil
  | _, _, _, k, .cons h r => .cons (Own.keep e kt (fun b hb => k b (by simp [hb])) h) (OwnA.keep e kt (fun b hb => k b (by simp [hb])) r)
end
mutual
theorem Own.kind {F H : Hp} : ∀ {v : V} {d : PyData} {L : List Addr}, Own F H v d L → ∀ b ∈ L, ∃ xs, H b = some (.lst xs)
  | _, _, _, .flat _ _, _, hb => nomatch hb
  | _, _, _, .lst h r, b, hb => by
    rcases List.mem_cons.mp hb with rfl | hb
    · exact ⟨_, h⟩
    · exact OwnA.kind r b hb
  | _, _, _, .tup h r, b, hb => OwnA.kind r b hb
theorem OwnA.kind {F H : Hp} : ∀ {v : List V} {d : List PyData} {L : List Addr}, OwnA F H v d L → ∀ b ∈ L, ∃ xs, H b = some (.lst xs)
  | _, _, _, .nil, _, hb => nomatch hb
  | _, _, _, .cons h r, b, hb => by
    rcases List.mem_append.mp hb with hb | hb
    · exact Own.kind h b hb
    · exact OwnA.kind r b hb
end
mutual
theorem Own.rp {F F' H : Hp} (e : Ex F F') (kt : ∀ b xs, H b = some (.tup xs) → F' b = some (.tup xs)) : ∀ {v : V} {d : PyData} {L : List Addr}, (∀ b ∈ L, ∀ o, H b = some o → F' b = some o) → Own F H v d L → Rp F' v d
  | _, _, _, _, .flat _ r => r.mono e
  | _, _, _, k, .lst h r => .lst (k _ (by simp) _ h) (OwnA.rp e kt (fun b hb => k b (by simp [hb])) r)
  | _, _, _, k, .tup h r => .tup (kt _ _ h) (OwnA.rp e kt k r)
theorem OwnA.rp {F F' H : Hp} (e : Ex F F') (kt : ∀ b xs, H b = some (.tup xs) → F' b = some (.tup xs)) : ∀ {v : List V} {d : List PyData} {L : List Addr}, (∀ b ∈ L, ∀ o, H b = some o → F' b = some o) → OwnA F H v d L → RpA F' v d
  | _, _, _, _, .nil => .nil
  | _, _, _, k, .cons h r => .cons (Own.rp e kt (fun b hb => k b (by simp [hb])) h) (OwnA.rp e kt (fun b hb => k b (by simp [hb])) r)
end
theorem OwnA.length {F H : Hp} : ∀ {xs : List V} {ds : List PyData} {L : List Addr}, OwnA F H xs ds L → xs.length = ds.length
  | _, _, _, .nil => rfl
  | _, _, _, .cons _ r => congrArg (· + 1) r.length
theorem OwnA.append {F H : Hp} : ∀ {xs ys : List V} {ds es : List PyData} {L M : List Addr}, OwnA F H xs ds L → OwnA F H ys es M → OwnA F H (xs ++ ys) (ds ++ es) (L ++ M)
  | _, _, _, _, _, _, .nil, s => s
  | _, _, _, _, _, _, .cons r t, s => by rw [List.append_assoc]; exact .cons r (t.append s)
theorem OwnA.one {F H : Hp} {v : V} {d : PyData} {L : List Addr} (h : Own F H v d L) : OwnA F H [v] [d] L := by
  have := OwnA.cons h .nil
  rwa [List.append_nil] at this
theorem OwnA.flat {F H : Hp} : ∀ {xs : List V} {ds : List PyData}, flatTs ds = true → RpA F xs ds → OwnA F H xs ds []
  | _, _, _, .nil => .nil
  | _, _, h, .cons r t => by
    rw [flatTs, Bool.and_eq_true] at h
    exact .cons (.flat h.1 r) (OwnA.flat h.2 t)
theorem OwnA.head {F H : Hp} {x : V} {xs : List V} {ds : List PyData} {L : List Addr} (h : OwnA F H (x :: xs) ds L) : ∃ d es L1 L2, ds = d :: es ∧ L = L1 ++ L2 ∧ Own F H x d L1 ∧ OwnA F H xs es L2 := by
  cases h with
  | cons a b => exact ⟨_, _, _, _, rfl, rfl, a, b⟩
/-- what a tuple or a list that is owned holds -/
theorem Own.tupA {F H : Hp} {v : V} {ds : List PyData} {L : List Addr} (h : Own F H v (.tuple ds) L) (e : Ex F H) : ∃ (a : Addr) (xs : List V), v = .ref a ∧ H a = some (.tup xs) ∧ OwnA F H xs ds L := by
  cases h with
  | flat hf r =>
    cases r with
    | tup h1 r1 => exact ⟨_, _, rfl, e _ _ h1, OwnA.flat hf r1⟩
  | tup h1 r1 => exact ⟨_, _, rfl, h1, r1⟩
theorem Own.lstA {F H : Hp} {v : V} {ds : List PyData} {L : List Addr} (h : Own F H v (.list ds) L) : ∃ (a : Addr) (xs : List V) (M : List Addr), v = .ref a ∧ H a = some (.lst xs) ∧ OwnA F H xs ds M ∧ L = a :: M := by
  cases h with
  | flat hf r => simp [flatT] at hf
  | lst h1 r1 => exact ⟨_, _, _, rfl, h1, r1, rfl⟩
/-- the owned lists, frozen, and all tuples -/
def frz (F H : Hp) (L : List Addr) : Hp := fun b => if b ∈ L then H b else match H b with
  | some (.tup xs) => some (.tup xs)
  | _ => F b
section
variable {F H : Hp} {L : List Addr} {v : V} {d : PyData}
theorem frz_in {b : Addr} (h : b ∈ L) : frz F H L b = H b := if_pos h
theorem frz_tup {b : Addr} {xs : List V} (h : H b = some (.tup xs)) : frz F H L b = some (.tup xs) := by
  by_cases hb : b ∈ L
  · rw [frz_in hb]; exact h
  · unfold frz; rw [if_neg hb, h]
theorem frz_sub (e : Ex F H) : Ex (frz F H L) H := fun b o h => by
  by_cases hb : b ∈ L
  · rwa [frz_in hb] at h
  · unfold frz at h
    rw [if_neg hb] at h
    split at h
    · rename_i xs q; rw [q]; exact h
    · exact e b o h
theorem frz_ext (e : Ex F H) : Ex F (frz F H L) := fun b o h => by
  by_cases hb : b ∈ L
  · rw [frz_in hb]; exact e b o h
  · unfold frz
    rw [if_neg hb]
    have := e b o h
    split
    · rename_i xs q; rw [q] at this; exact this
    · exact h
theorem Own.frz (h : Own F H v d L) (e : Ex F H) : Rp (frz F H L) v d := h.rp (frz_ext e) (fun _ _ q => frz_tup q) fun b hb o q => by rw [frz_in hb]; exact q
theorem OwnA.frz {xs : List V} {ds : List PyData} (h : OwnA F H xs ds L) (e : Ex F H) : RpA (OT.frz F H L) xs ds := h.rp (frz_ext e) (fun _ _ q => frz_tup q) fun b hb o q => by rw [frz_in hb]; exact q
/-- what is frozen beyond F -/
theorem frz_new {b : Addr} (hb : b ∉ L) (hF : F b = none) : frz F H L b = none ∨ ∃ xs, frz F H L b = some (.tup xs) := by
  unfold OT.frz
  rw [if_neg hb]
  split
  · exact .inr ⟨_, rfl⟩
  · exact .inl hF
end
/-! ### spoilt -/
mutual
def sp : PyData → PyData
  | .list xs => .list (sps xs ++ [.str "late"])
  | .tuple xs => .tuple (sps xs)
  | .none => .none
  | .bool b => .bool b
  | .int i => .int i
  | .str x => .str x
  | .dict es => .dict es
def sps : List PyData → List PyData
  | [] => []
  | x :: xs => sp x :: sps xs
end
theorem sps_map : ∀ xs : List PyData, sps xs = xs.map sp
  | [] => rfl
  | x :: xs => by rw [sps, sps_map xs]; rfl
mutual
theorem sp_flat : ∀ {d : PyData}, flatT d = true → sp d = d
  | .list _, h => by simp [flatT] at h
  | .tuple xs, h => by rw [sp, sps_flat (by simpa [flatT] using h)]
  | .none, _ => rfl
  | .bool _, _ => rfl
  | .int _, _ => rfl
  | .str _, _ => rfl
  | .dict _, _ => rfl
theorem sps_flat : ∀ {xs : List PyData}, flatTs xs = true → sps xs = xs
  | [], _ => rfl
  | x :: xs, h => by
    rw [flatTs, Bool.and_eq_true] at h
    rw [sps, sp_flat h.1, sps_flat h.2]
end
/-- from H to H', the objects at L alone may have changed -/
structure Chg (L : List Addr) (H H' : Hp) : Prop where
  keep : ∀ b o, b ∉ L → H b = some o → H' b = some o
  dom : ∀ b, H' b = none → H b = none
theorem Chg.refl {L : List Addr} {H : Hp} : Chg L H H := ⟨fun _ _ _ h => h, fun _ h => h⟩
theorem Chg.trans {L M : List Addr} {H H1 H2 : Hp} (a : Chg L H H1) (b : Chg M H1 H2) : Chg (L ++ M) H H2 := ⟨fun c o n h => b.keep c o (fun q => n (by simp [q])) (a.keep c o (fun q => n (by simp [q])) h), fun c h => a.dom c (b.dom c h)⟩
theorem Chg.wide {L M : List Addr} {H H1 : Hp} (a : Chg L H H1) (h : ∀ b ∈ L, b ∈ M) : Chg M H H1 := ⟨fun c o n e => a.keep c o (fun q => n (h c q)) e, a.dom⟩
theorem Chg.tups {L : List Addr} {H H' : Hp} (c : Chg L H H') (hk : ∀ b ∈ L, ∃ xs, H b = some (.lst xs)) : ∀ b xs, H b = some (.tup xs) → H' b = some (.tup xs) := fun b xs e => c.keep b _ (fun q => by
  obtain ⟨ys, k⟩ := hk b q
  rw [e] at k; cases k) e
theorem Chg.of {L : List Addr} {F H F' H' : Hp} (g : Grow z0 F H F' H') : Chg L H H' := ⟨fun b o _ h => g.keep b o zv_z0 h, g.dom⟩
/-- free of F, of its own: what an owned tree asks of where it stands -/
structure Off (F : Hp) (L : List Addr) : Prop where
  nd : L.Nodup
  off : ∀ b ∈ L, F b = none
/-- the promise of _law_spoilt(thing): n is beyond its height -/
def spSpoilt (ok : PyData → Prop) : Sp := fun vs H Q _ => ∃ v F d L, vs = [v] ∧ Own F H v d L ∧ Off F L ∧ Ex F H ∧ ok d ∧ ∀ H', Chg L H H' → Own F H' v (sp d) L → Q .non H'
end OT
/-! Owned trees, 2: defs known by a promise about values; the loop that spoils the parts. -/
namespace OT
open PySem PySem.Spec PyProof.Rows L2 DD
open Evl (Ex)
structure DefV (P : Program) (w : World) (K : PySem.W.Frag) (mg : Str → Option Value) (base : Heap) (k : Nat) (x : Str) (sp : Sp) : Prop where
  ex : ∃ f fd ps, FnOk P w K mg base CX0 k f fd ps sp ∧ mg x = some (.ref f) ∧ PySem.W.keepIn K (.ref f) = true ∧ Binds K fd ps []
section
variable {P : Program} {w : World} {K : PySem.W.Frag} {mg : Str → Option Value} {base : Heap} {k : Nat} {x : Str} {st : Stmt} {ps N : List Str} {sp : Sp}
theorem v_of (D : DefT K mg x st ps) (S : FnScope N ps (defScope st)) (len : ∀ vs H Q E, sp vs H Q E → vs.length = ps.length)
    (hbody : ∀ (f : Addr) (cdv : Value) (A : Around) (outer : List Env) (s : Shared) (H : Hp) (vs : List V) (Q : VK) (E : XK), Room k (A.deeper (envOfC x (defScope st) s.heap.objs.size f cdv)) → sp vs H Q E →
      ∃ t, PSs (cxOf CX0 P w K mg base N x (defScope st) f cdv A outer s H E).nox (defBody st) t ∧ t { nx := fun _ H' => Q .non H', rt := Q } (L2.start N vs) H) : DefV P w K mg base (k + 1) x sp := by
  obtain ⟨f, fd, F, hm, hb⟩ := D.ex
  exact ⟨f, fd, ps, F.ok S len (fun cdv A outer s H vs Q E hr h => hbody f cdv A outer s H vs Q E hr h), hm, F.kp, hb⟩
theorem v_none (D : DefT K mg x st ps) (h : ∀ vs H Q E, ¬ sp vs H Q E) : DefV P w K mg base 0 x sp := by
  obtain ⟨f, fd, F, hm, hb⟩ := D.ex
  exact ⟨f, fd, ps, ⟨fun vs H Q E z => absurd z (h vs H Q E), fun A outer s H args us vs Q E hr e hb r z => absurd z (h vs H Q E)⟩, hm, F.kp, hb⟩
theorem DefV.mono {j : Nat} (D : DefV P w K mg base j x sp) (h : j ≤ k) : DefV P w K mg base k x sp := by
  obtain ⟨f, fd, ps, F, r⟩ := D.ex
  exact ⟨f, fd, ps, F.mono h, r⟩
theorem DefV.imp {sp' : Sp} (D : DefV P w K mg base k x sp) (h : ∀ vs H Q E, sp' vs H Q E → sp vs H Q E) : DefV P w K mg base k x sp' := by
  obtain ⟨f, fd, ps, F, r⟩ := D.ex
  exact ⟨f, fd, ps, F.imp h, r⟩
end
section
variable {X : Cx} {x : Str} {e : Expr} {es : List Expr} {ta : TA} {p pos : Pos} {j k : Nat} {sp : Sp}
theorem pe_v (D : DefV X.prog X.w X.K X.mg X.base j x sp) (hr : Room k X.A) (ha : PA X (e :: es) ta) (hk : j ≤ k := by first | decide | omega) (hg : Gl X x := by rfl)
    (hdb : (x == ("__debug__" : Str)) = false := by decide) (he : starEach (e :: es) X.env = (false, eval e X.env) :: starEach es X.env := by rfl) (hpl : (backTo pos (starEach es X.env)).any (·.1) = false := by rfl) :
    PE X (.Call (.Name x p) (e :: es) [] pos) (tCall sp [] E0 ta) := by
  obtain ⟨f, fd, ps, F, hm, hkp, hb⟩ := D.ex
  exact pe_call F (hr.mono hk) hg hm hkp hb .nil pass0 ha hdb he hpl
end
theorem sit1 {σ : L2.St} {H F : Hp} {v : V} {d : PyData} {n : Nat} (e : Ex F H) (hl : σ.length = n + 1) (h0 : σ[0]? = some (some v)) (r : Rp F v d) : Sit z0 (fun _ => none) σ H F ⟨.val d :: List.replicate n .no, 0⟩ where
  sub := e
  stm := ⟨trivial, fun _ q => nomatch q⟩
  off := fun _ h => absurd h zv_z0
  len := by simp [hl]
  slot := fun i s h => by
    cases i with
    | zero => cases h; exact ⟨some v, h0, v, rfl, r⟩
    | succ i =>
      have hi := (List.getElem?_eq_some_iff.mp h).1
      simp at hi
      have hs := List.eq_of_mem_replicate (List.mem_of_getElem? (show (List.replicate n S.no)[i]? = some s from h))
      subst hs
      exact ⟨σ[i + 1]'(by omega), by simp [hi], trivial⟩
  sep := fun i j a b l hij h1 h2 o1 o2 => by
    have := List.mem_of_getElem? h1
    simp only [List.mem_cons] at this
    rcases this with rfl | this
    · exact absurd o1 Bool.false_ne_true
    · rw [List.eq_of_mem_replicate this] at o1
      exact absurd o1 Bool.false_ne_true
/-- the parts ahead of i are spoilt -/
structure Mid (F H1 : Hp) (M : List Addr) (v : V) (xs : List V) (ds : List PyData) (i : Nat) (σ : L2.St) (H' : Hp) : Prop where
  σ : ∃ u, σ = [some v, u]
  chg : Chg M H1 H'
  sub : Ex F H'
  own : ∃ L1 L2, M = L1 ++ L2 ∧ OwnA F H' (xs.take i) (sps (ds.take i)) L1 ∧ OwnA F H' (xs.drop i) (ds.drop i) L2
theorem Own.sub_chg {F H H' : Hp} {L : List Addr} (e : Ex F H) (o : ∀ b ∈ L, F b = none) (c : Chg L H H') : Ex F H' := fun b u h => c.keep b u (fun q => by rw [o b q] at h; cases h) (e b u h)
theorem Mid.step {F H1 : Hp} {M : List Addr} {v : V} {xs : List V} {ds : List PyData} {i : Nat} {σ : L2.St} {H' : Hp} {x : V} (p : Mid F H1 M v xs ds i σ H') (off : Off F M) (hl : xs.length = ds.length) (hx : xs[i]? = some x) :
    ∃ d0 La, d0 ∈ ds ∧ Own F H' x d0 La ∧ Off F La ∧ ∀ H4, Chg La H' H4 → Own F H4 x (sp d0) La → Mid F H1 M v xs ds (i + 1) (σ.set 1 (some x)) H4 := by
  obtain ⟨u, hσ⟩ := p.σ
  obtain ⟨L1, L2, eM, o1, o2⟩ := p.own
  have hi := (List.getElem?_eq_some_iff.mp hx).1
  have hid : i < ds.length := by omega
  have e1 : xs.drop i = x :: xs.drop (i + 1) := by rw [List.drop_eq_getElem_cons hi]; congr 1; exact (List.getElem?_eq_some_iff.mp hx).2
  have e2 : ds.drop i = ds[i] :: ds.drop (i + 1) := List.drop_eq_getElem_cons hid
  rw [e1, e2] at o2
  obtain ⟨d0, es, La, Lb, ed, eL, ow, oA⟩ := o2.head
  cases ed
  subst eL eM
  have nd := off.nd
  rw [List.nodup_append] at nd
  obtain ⟨n1, n2, n3⟩ := nd
  rw [List.nodup_append] at n2
  obtain ⟨n4, n5, n6⟩ := n2
  have offa : Off F La := ⟨n4, fun b hb => off.off b (by simp [hb])⟩
  refine ⟨ds[i], La, List.getElem_mem hid, ow, offa, fun H4 c o4 => ?_⟩
  have kt := c.tups ow.kind
  refine ⟨⟨some x, by rw [hσ]; rfl⟩, ⟨fun b o n e => c.keep b o (fun q => n (by simp [q])) (p.chg.keep b o n e), fun b e => p.chg.dom b (c.dom b e)⟩, Own.sub_chg p.sub offa.off c, L1 ++ La, Lb, by simp, ?_, ?_⟩
  · have t1 : xs.take (i + 1) = xs.take i ++ [x] := by rw [List.take_add_one, hx]; rfl
    have t2 : sps (ds.take (i + 1)) = sps (ds.take i) ++ [sp ds[i]] := by rw [sps_map, sps_map, List.take_add_one, List.getElem?_eq_getElem hid, List.map_append]; rfl
    rw [t1, t2]
    exact (o1.keep (fun _ _ q => q) kt fun b hb o e => c.keep b o (fun q => n3 b hb b (by simp [q]) rfl) e).append (.one o4)
  · exact oA.keep (fun _ _ q => q) kt fun b hb o e => c.keep b o (fun q => n6 b q b hb rfl) e
theorem Mid.start {F H1 : Hp} {M : List Addr} {v : V} {xs : List V} {ds : List PyData} {u : Option V} (e : Ex F H1) (o : OwnA F H1 xs ds M) : Mid F H1 M v xs ds 0 [some v, u] H1 := ⟨⟨u, rfl⟩, .refl, e, [], M, rfl, by simpa [sps] using OwnA.nil, by simpa using o⟩
theorem Mid.fin {F H1 H' : Hp} {M : List Addr} {v : V} {xs : List V} {ds : List PyData} {σ : L2.St} (p : Mid F H1 M v xs ds xs.length σ H') (hl : xs.length = ds.length) : OwnA F H' xs (sps ds) M := by
  obtain ⟨L1, L2, eM, o1, o2⟩ := p.own
  rw [List.take_length] at o1
  rw [hl, List.take_length] at o1
  rw [List.drop_length, hl, List.drop_length] at o2
  cases o2
  rw [eM, List.append_nil]
  exact o1
/-! ### isinstance, at a value -/
section
variable {σ : L2.St} {H F : Hp} {v : V} {d : PyData} {i : Nat} {Q : Bool → Hp → Prop} {QE : VK} {L : List Addr}
theorem e_isi {T : String} {g : PyData → Bool} (hk : ∀ d, kitB (tyD d) T = some (g d)) (h0 : σ[i]? = some (some v)) (e : Ex F H) (r : Rp F v d) (k : QE (.bl (g d)) H) : tCB (kC yIsi) (tCons (tVar i) (tCons (tC (.ty T)) tNil)) σ H QE :=
  ⟨v, h0, fun K => ⟨v, .ty T, .type (tyD d), .type T, g d, rfl, .ty T, r.ty e, kit_ty (hk d), k⟩⟩
theorem v_isi {T : String} {g : PyData → Bool} (hk : ∀ d, kitB (tyD d) T = some (g d)) (h0 : σ[i]? = some (some v)) (e : Ex F H) (r : Rp F v d) (k : Q (g d) H) : tB (tCB (kC yIsi) (tCons (tVar i) (tCons (tC (.ty T)) tNil))) σ H Q :=
  e_isi hk h0 e r ⟨_, rfl, k⟩
theorem e_LT (h0 : σ[i]? = some (some v)) (e : Ex F H) (r : Rp F v d) (k : ∀ l, H l = none → QE (.bl (isSeq d)) (L2.upd H l (.tup (["list", "tuple"].map V.ty)))) : tCB (kC yIsiT) (tCons (tVar i) (tCons (tTup (tCons (tC (.ty "list")) (tCons (tC (.ty "tuple")) tNil))) tNil)) σ H QE := by
  refine ⟨v, h0, (by show 2 ≤ sizeLine; decide), fun l hl => ?_⟩
  have g2 : Grow z0 F H F (L2.upd H l (.tup (["list", "tuple"].map V.ty))) := Grow.fresh e hl
  exact fun K => ⟨v, l, ["list", "tuple"].map V.ty, .type (tyD d), ["list", "tuple"].map Value.type, isSeq d, rfl, upd_same, pair_cls ["list", "tuple"], (r.mono g2.ext).ty g2.sub, kit_LT K d, k l hl⟩
theorem v_LT (h0 : σ[i]? = some (some v)) (e : Ex F H) (r : Rp F v d) (k : ∀ l, H l = none → Q (isSeq d) (L2.upd H l (.tup (["list", "tuple"].map V.ty)))) : tB (tCB (kC yIsiT) (tCons (tVar i) (tCons (tTup (tCons (tC (.ty "list")) (tCons (tC (.ty "tuple")) tNil))) tNil))) σ H Q :=
  e_LT h0 e r fun l hl => ⟨_, rfl, k l hl⟩
theorem Chg.fresh {a : Addr} {o : HO} (h : H a = none) : Chg L H (L2.upd H a o) := ⟨fun b u _ e => by rw [upd_ne (ne_of_none e h)]; exact e, fun b e => by
  by_cases hb : b = a
  · rw [hb]; exact h
  · rwa [upd_ne hb] at e⟩
theorem Chg.at_ {a : Addr} {o : HO} (h : a ∈ L) (n : H a ≠ none) : Chg L H (L2.upd H a o) := ⟨fun b u q e => by rw [upd_ne (fun z => q (by rw [z]; exact h))]; exact e, fun b e => by
  by_cases hb : b = a
  · rw [hb, upd_same] at e; cases e
  · rwa [upd_ne hb] at e⟩
theorem Own.chg {M : List Addr} {H' : Hp} (o : Own F H v d L) (c : Chg M H H') (hk : ∀ b ∈ M, ∃ xs, H b = some (.lst xs)) (h : ∀ b ∈ L, b ∉ M) : Own F H' v d L := o.keep (fun _ _ q => q) (c.tups hk) fun b hb u e => c.keep b u (h b hb) e
theorem OwnA.chg {M : List Addr} {H' : Hp} {xs : List V} {ds : List PyData} (o : OwnA F H xs ds L) (c : Chg M H H') (hk : ∀ b ∈ M, ∃ xs, H b = some (.lst xs)) (h : ∀ b ∈ L, b ∉ M) : OwnA F H' xs ds L := o.keep (fun _ _ q => q) (c.tups hk) fun b hb u e => c.keep b u (h b hb) e
end
end OT
/-! Owned trees, 3: fresh trees. -/
namespace OT
open PySem PySem.Spec PyProof.Rows L2 DD
open Evl (Ex)
mutual
/-- no dict within -/
def nod : PyData → Bool
  | .list xs => nods xs
  | .tuple xs => nods xs
  | .dict _ => false
  | _ => true
def nods : List PyData → Bool
  | [] => true
  | x :: xs => nod x && nods xs
end
theorem nods_mem : ∀ {xs : List PyData}, nods xs = true → ∀ d ∈ xs, nod d = true
  | x :: xs, h, d, hd => by
    rw [nods, Bool.and_eq_true] at h
    rcases List.mem_cons.mp hd with rfl | hd
    · exact h.1
    · exact nods_mem h.2 d hd
/-- a tree at H' of which nothing stood at H -/
structure Fresh (F H H' : Hp) (v : V) (d : PyData) (L : List Addr) : Prop where
  chg : Chg [] H H'
  own : Own F H' v d L
  nd : L.Nodup
  new : ∀ b ∈ L, H b = none
/-- the promise of a def that hands back a fresh tree of the data of its argument -/
def spCopied (ok : PyData → Prop) : Sp := fun vs H Q _ => ∃ v F d, vs = [v] ∧ Ex F H ∧ Rp F v d ∧ ok d ∧ ∀ v' H' L, Fresh F H H' v' d L → Q v' H'
theorem Chg.ex {H H' : Hp} (c : Chg [] H H') : Ex H H' := fun b o e => c.keep b o (fun q => nomatch q) e
theorem Chg.tr {H H1 H2 : Hp} (a : Chg [] H H1) (b : Chg [] H1 H2) : Chg [] H H2 := a.trans b
/-- the first i parts are copied into the list at D -/
structure MidC (F H : Hp) (D : Addr) (ds : List PyData) (i : Nat) (H' : Hp) : Prop where
  chg : Chg [] H H'
  hD0 : H D = none
  hD : ∃ acc L, H' D = some (.lst acc) ∧ OwnA F H' acc (ds.take i) L ∧ L.Nodup ∧ D ∉ L ∧ ∀ b ∈ L, H b = none
theorem MidC.start {F H : Hp} {D : Addr} {ds : List PyData} (h : H D = none) : MidC F H D ds 0 (L2.upd H D (.lst [])) := ⟨Chg.fresh h, h, [], [], upd_same, by simpa using OwnA.nil, List.nodup_nil, (fun q => nomatch q), fun _ q => nomatch q⟩
theorem Chg.write {H H' : Hp} {D : Addr} {o : HO} (c : Chg [] H H') (h : H D = none) : Chg [] H (L2.upd H' D o) := ⟨fun b u _ e => by rw [upd_ne (ne_of_none e h)]; exact c.keep b u (fun q => nomatch q) e, fun b e => by
  by_cases hb : b = D
  · rw [hb]; exact h
  · rw [upd_ne hb] at e; exact c.dom b e⟩
theorem MidC.step {F H H' H4 : Hp} {D : Addr} {ds : List PyData} {i : Nat} {d : PyData} {v : V} {L' : List Addr} (p : MidC F H D ds i H') (hd : ds[i]? = some d) (f : Fresh F H' H4 v d L') :
    ∃ acc, H4 D = some (.lst acc) ∧ acc.length ≤ i ∧ MidC F H D ds (i + 1) (L2.upd H4 D (.lst (acc ++ [v]))) := by
  obtain ⟨acc, L, e, o, n, nD, new⟩ := p.hD
  have e4 := f.chg.ex _ _ e
  have hlen : acc.length ≤ i := by rw [o.length, List.length_take]; omega
  have nD' : D ∉ L' := fun q => by rw [f.new D q] at e; cases e
  refine ⟨acc, e4, hlen, (p.chg.tr f.chg).write p.hD0, p.hD0, acc ++ [v], L ++ L', upd_same, ?_, ?_, ?_, ?_⟩
  · rw [List.take_add_one, hd]
    refine (o.keep (fun _ _ q => q) (fun b xs q => ?_) fun b hb u q => ?_).append (.one (f.own.keep (fun _ _ q => q) (fun b xs q => ?_) fun b hb u q => ?_))
    · rw [upd_ne (fun z => by rw [z] at q; have := f.chg.ex _ _ q; rw [e4] at this; cases this)]; exact f.chg.ex _ _ q
    · rw [upd_ne (fun z => nD (by rw [← z]; exact hb))]; exact f.chg.ex _ _ q
    · rw [upd_ne (fun z => by rw [z, e4] at q; cases q)]; exact q
    · rw [upd_ne (fun z => nD' (by rw [← z]; exact hb))]; exact q
  · refine List.nodup_append.mpr ⟨n, f.nd, fun a ha b hb q => ?_⟩
    subst q
    obtain ⟨xs, k⟩ := o.kind a ha
    have := f.new a hb
    rw [k] at this; cases this
  · intro q
    rcases List.mem_append.mp q with q | q
    · exact nD q
    · exact nD' q
  · intro b hb
    rcases List.mem_append.mp hb with q | q
    · exact new b q
    · exact p.chg.dom b (f.new b q)
theorem MidC.list {F H H' : Hp} {D : Addr} {ds : List PyData} (p : MidC F H D ds ds.length H') : ∃ acc L, H' D = some (.lst acc) ∧ OwnA F H' acc ds L ∧ Fresh F H H' (.ref D) (.list ds) (D :: L) := by
  obtain ⟨acc, L, e, o, n, nD, new⟩ := p.hD
  rw [List.take_length] at o
  refine ⟨acc, L, e, o, p.chg, .lst e o, List.nodup_cons.mpr ⟨nD, n⟩, fun b hb => ?_⟩
  rcases List.mem_cons.mp hb with rfl | hb
  · exact p.hD0
  · exact new b hb
theorem MidC.tup {F H H' : Hp} {D l : Addr} {ds : List PyData} {acc : List V} {L : List Addr} (f : Fresh F H H' (.ref D) (.list ds) (D :: L)) (o : OwnA F H' acc ds L) (hl : H' l = none) : Fresh F H (L2.upd H' l (.tup acc)) (.ref l) (.tuple ds) L := by
  refine ⟨f.chg.tr (Chg.fresh hl), .tup upd_same (o.keep (fun _ _ q => q) (fun b xs q => ?_) fun b hb u q => ?_), (List.nodup_cons.mp f.nd).2, fun b hb => f.new b (by simp [hb])⟩
  · rw [upd_ne (ne_of_none q hl)]; exact q
  · rw [upd_ne (ne_of_none q hl)]; exact q
end OT
/-! Owned trees, 4: expressions and defs that hand back fresh trees, in the Deep layer. -/
namespace OT
open PySem PySem.Spec PyProof.Rows L2 DD
open Evl (Ex)
/-- a fresh tree; what is frozen may have grown -/
structure FreshX (z : Zn) (F H F' H' : Hp) (v : V) (d : PyData) (L : List Addr) : Prop where
  g : Grow z F H F' H'
  own : Own F' H' v d L
  nd : L.Nodup
  new : ∀ b ∈ L, H b = none ∧ F' b = none
def DenO (z : Zn) (t : TE) (w : WE) : Prop := ∀ (B : Hp) (σ : L2.St) (H F : Hp) (en : En), Sit z B σ H F en → ∀ (P : PyData → Nat → Prop) (Q : VK), w en P →
  (∀ v H' F' d n L, FreshX z F H F' H' v d L → Stm z n H' → P d n → Q v H') → t σ H Q
def DenOA (z : Zn) (t : TA) (w : WA) : Prop := ∀ (B : Hp) (σ : L2.St) (H F : Hp) (en : En), Sit z B σ H F en → ∀ (P : List PyData → Nat → Prop) (Q : List V → Hp → Prop), w en P →
  (∀ vs H' F' ds n L, Grow z F H F' H' → Stm z n H' → OwnA F' H' vs ds L → L.Nodup → (∀ b ∈ L, H b = none ∧ F' b = none) → P ds n → Q vs H') → t σ H Q
structure JO (z : Zn) (X : Cx) (e : Expr) (t : TE) (w : WE) : Prop where
  pe : PE X e t
  de : DenO z t w
structure JOA (z : Zn) (X : Cx) (es : List Expr) (t : TA) (w : WA) : Prop where
  pa : PA X es t
  de : DenOA z t w
section
variable {z : Zn} {X : Cx} {e : Expr} {es : List Expr} {t te : TE} {ta tr : TA} {we : WE} {wa wr : WA} {pos p : Pos} {k j np : Nat} {x1 : _}
@[simp] def wFlat (w : WE) : WE := fun en P => w en fun d n => flatT d = true ∧ P d n
theorem jo_flat (h : JE z X e t we) : JO z X e t (wFlat we) := ⟨h.pe, fun B σ H F en s P Q hw kk => h.de B σ H F en s _ _ hw fun v H1 F1 d n1 g1 s1 r1 q1 => kk v H1 F1 d n1 [] ⟨g1, .flat q1.1 r1, List.nodup_nil, fun _ q => nomatch q⟩ s1 q1.2⟩
@[simp] def wFlatL (w : WA) : WE := fun en P => w en fun ds n => flatTs ds = true ∧ P (.list ds) n
theorem jo_l (h : JL z X e t wa) : JO z X e t (wFlatL wa) := ⟨h.pe, fun B σ H F en s P Q hw kk => h.de B σ H F en s _ _ hw fun l xs H1 F1 ds n1 g1 s1 hl fl e1 r1 q1 => kk _ H1 F1 _ n1 [l] ⟨g1, .lst e1 (.flat q1.1 r1), by simp, fun b hb => by
  simp only [List.mem_singleton] at hb
  subst hb
  exact ⟨hl, fl⟩⟩ s1 q1.2⟩
theorem joa_nil : JOA z X [] tNil wNil := ⟨pa_nil, fun B σ H F en s P Q hw kk => kk [] H F [] en.n [] (Grow.refl s.sub) s.stm .nil List.nodup_nil (fun _ q => nomatch q) hw⟩
/-- what is owned stays off what is frozen -/
theorem off_grow {F H F' H' : Hp} {L : List Addr} (hk : ∀ b ∈ L, ∃ xs, H b = some (.lst xs)) (g : Grow z F H F' H') (hz : ∀ b ∈ L, ¬ Zv z b) (ho : ∀ b ∈ L, F b = none) : ∀ b ∈ L, F' b = none := fun b hb => by
  obtain ⟨xs, e⟩ := hk b hb
  exact g.apart e (hz b hb) (fun _ q => nomatch q) (ho b hb)
end
theorem Own.grow {z : Zn} {F H F' H' : Hp} {v : V} {d : PyData} {L : List Addr} (o : Own F H v d L) (g : Grow z F H F' H') (t : ∀ b xs, H b = some (.tup xs) → ¬ Zv z b) (hz : ∀ b ∈ L, ¬ Zv z b) : Own F' H' v d L := o.keep g.ext (fun b xs e => g.keep b _ (t b xs e) e) fun b hb u e => g.keep b u (hz b hb) e
theorem OwnA.grow {z : Zn} {F H F' H' : Hp} {v : List V} {d : List PyData} {L : List Addr} (o : OwnA F H v d L) (g : Grow z F H F' H') (t : ∀ b xs, H b = some (.tup xs) → ¬ Zv z b) (hz : ∀ b ∈ L, ¬ Zv z b) : OwnA F' H' v d L := o.keep g.ext (fun b xs e => g.keep b _ (t b xs e) e) fun b hb u e => g.keep b u (hz b hb) e
theorem stm_tup {z : Zn} {n : Nat} {H : Hp} (s : Stm z n H) : ∀ b xs, H b = some (.tup xs) → ¬ Zv z b := fun b xs e hz => by
  rcases s.kind hz with ⟨_, q⟩ | ⟨_, q⟩ <;> rw [e] at q <;> cases q
section
variable {z : Zn} {X : Cx} {e : Expr} {es : List Expr} {t te : TE} {ta tr : TA} {we : WE} {wa wr : WA} {pos p : Pos} {k j np : Nat}
theorem joa_cons (h : JO z X e te we) (hr : JOA z X es tr wr) (hs : starEach (e :: es) X.env = (false, eval e X.env) :: starEach es X.env := by rfl) : JOA z X (e :: es) (tCons te tr) (wCons we wr) where
  pa := pa_cons h.pe hr.pa hs
  de := fun B σ H F en s P Q hw kk => by
    refine h.de B σ H F en s _ _ hw fun v H1 F1 d n1 L1 f1 s1 q1 => ?_
    refine hr.de B σ H1 F1 _ (s.grow f1.g s1) _ _ q1 fun vs H2 F2 ds n2 L2 g2 s2 o2 nd2 new2 q2 => ?_
    have hz : ∀ b ∈ L1, ¬ Zv z b := fun b hb q => s.stm.there q (f1.new b hb).1
    refine kk _ H2 F2 _ n2 (L1 ++ L2) (f1.g.trans g2) s2 (.cons (f1.own.grow g2 (stm_tup s1) hz) o2) (List.nodup_append.mpr ⟨f1.nd, nd2, fun a ha b hb q => ?_⟩) (fun b hb => ?_) q2
    · subst q
      obtain ⟨xs, k⟩ := f1.own.kind a ha
      have := (new2 a hb).1
      rw [k] at this; cases this
    · rcases List.mem_append.mp hb with hb | hb
      · exact ⟨(f1.new b hb).1, off_grow f1.own.kind g2 hz (fun b hb => (f1.new b hb).2) b hb⟩
      · exact ⟨f1.g.dom b (new2 b hb).1, (new2 b hb).2⟩
theorem upd_keepT {H : Hp} {p : Addr} {o : HO} (hp : H p = none) : ∀ b xs, H b = some (.tup xs) → L2.upd H p o b = some (.tup xs) := fun b xs e => by rw [upd_ne (ne_of_none e hp)]; exact e
theorem jo_tup {x1} (h : JOA z X es ta wa) : JO z X (.Tuple es x1 pos) (tTup ta) (wTup wa) where
  pe := pe_tup h.pa
  de := fun B σ H F en s P Q hw kk => by
    refine h.de B σ H F en s _ _ hw fun vs H1 F1 ds n1 L g1 s1 o1 nd1 new1 q1 => ?_
    refine ⟨Evl.sz_of (by rw [o1.length]; exact q1.1), fun p hp => ?_⟩
    exact kk _ _ F1 _ n1 L ⟨g1.trans (Grow.fresh g1.sub hp), .tup upd_same (o1.keep (fun _ _ q => q) (upd_keepT hp) fun b hb u q => by rw [upd_ne (ne_of_none q hp)]; exact q), nd1, new1⟩ (s1.new hp) q1.2
theorem jo_lst (h : JOA z X es ta wa) : JO z X (.List es pos) (tLst ta) (fun en P => wa en fun ds n => ds.length ≤ 100000 ∧ P (.list ds) n) where
  pe := pe_lst h.pa
  de := fun B σ H F en s P Q hw kk => by
    refine h.de B σ H F en s _ _ hw fun vs H1 F1 ds n1 L g1 s1 o1 nd1 new1 q1 => ?_
    refine ⟨Evl.sz_of (by rw [o1.length]; exact q1.1), fun p hp => ?_⟩
    refine kk _ _ F1 _ n1 (p :: L) ⟨g1.trans (Grow.fresh g1.sub hp), .lst upd_same (o1.keep (fun _ _ q => q) (upd_keepT hp) fun b hb u q => by rw [upd_ne (ne_of_none q hp)]; exact q), List.nodup_cons.mpr ⟨fun q => ?_, nd1⟩, fun b hb => ?_⟩ (s1.new hp) q1.2
    · obtain ⟨xs, k⟩ := o1.kind p q
      rw [hp] at k; cases k
    · rcases List.mem_cons.mp hb with rfl | hb
      · exact ⟨g1.dom _ hp, none_of_sub g1.sub hp⟩
      · exact new1 b hb
end
/-! ### defs that hand back a fresh tree -/
abbrev FSp := List PyData → (PyData → Prop) → Prop
def spFr (np : Nat) (sp : FSp) : Sp := fun vs H Q _ => vs.length = np ∧ ∃ F ds P, Ex F H ∧ RpA F vs ds ∧ sp ds P ∧ ∀ v H' F' L d, FreshX z0 F H F' H' v d L → P d → Q v H'
abbrev DefF (P : Program) (w : World) (K : PySem.W.Frag) (mg : Str → Option Value) (base : Heap) (k : Nat) (x : Str) (np : Nat) (sp : FSp) : Prop := DefV P w K mg base k x (spFr np sp)
section
variable {z : Zn} {X : Cx} {e : Expr} {es : List Expr} {t te : TE} {ta tr : TA} {we : WE} {wa wr : WA} {pos p : Pos} {k j np : Nat} {x : Str} {sp : FSp} {st : Stmt} {rest : List Stmt} {ts tu : TS} {w : WS}
@[simp] def wCallF (np : Nat) (sp : FSp) (w : WA) : WE := fun en P => w en fun ds n => ds.length = np ∧ sp ds fun d => P d n
theorem FreshX.after {F H F1 H1 F2 H2 : Hp} {v : V} {d : PyData} {L : List Addr} (f : FreshX z0 F1 H1 F2 H2 v d L) (g : Grow z F H F1 H1) : FreshX z F H F2 H2 v d L := ⟨g.trans f.g.weak, f.own, f.nd, fun b hb => ⟨g.dom b (f.new b hb).1, (f.new b hb).2⟩⟩
theorem jo_f (D : DefF X.prog X.w X.K X.mg X.base j x np sp) (hr : Room k X.A) (ha : JA z X (e :: es) ta wa) (hk : j ≤ k := by first | decide | omega) (hg : Gl X x := by rfl)
    (hdb : (x == ("__debug__" : Str)) = false := by decide) (he : starEach (e :: es) X.env = (false, eval e X.env) :: starEach es X.env := by rfl) (hpl : (backTo pos (starEach es X.env)).any (·.1) = false := by rfl) :
    JO z X (.Call (.Name x p) (e :: es) [] pos) (tCall (spFr np sp) [] E0 ta) (wCallF np sp wa) := ⟨pe_v D hr ha.pa hk hg hdb he hpl, fun B σ H F en s P Q hw kk => by
  refine ha.de B σ H F en s _ _ hw fun vs H1 F1 ds n1 g1 s1 r1 q1 => ?_
  rw [List.append_nil]
  exact ⟨by rw [r1.length]; exact q1.1, F1, ds, _, g1.sub, r1, q1.2, fun v H2 F2 L d f q => kk v H2 F2 d n1 L (f.after g1) (s1.ex f.g.ex) q⟩⟩
/-- a body that hands back a fresh tree -/
def DenF (z : Zn) (t : TS) (w : En → (PyData → Nat → Prop) → Prop) : Prop := ∀ (B F0 : Hp) (σ : L2.St) (H F : Hp) (en : En) (D : Ends) (P : PyData → Nat → Prop), Sit z B σ H F en → Grow z F0 B F H → w en P → (∀ v H' F' d n L, FreshX z F0 B F' H' v d L → Stm z n H' → P d n → D.rt v H') → t D σ H
structure JF (z : Zn) (X : Cx) (sts : List Stmt) (t : TS) (w : En → (PyData → Nat → Prop) → Prop) : Prop where
  ps : PSs X sts t
  de : DenF z t w
theorem jf_cons {v : En → (PyData → Nat → Prop) → Prop} (h : JS z X st ts w) (h' : JF z X rest tu v) : JF z X (st :: rest) (tSeq ts tu) (fun en P => w { nx := fun en' => v en' P, rt := fun _ _ => False } en) := ⟨pss_cons h.ps h'.ps, fun B F0 σ H F en D P s g hw kk =>
  h.de B F0 σ H F en _ _ s g hw ⟨fun σ' H' F' en' s' g' q => h'.de B F0 σ' H' F' en' D P s' g' q kk, fun _ _ _ _ _ _ _ _ q => q.elim, fun _ _ _ _ _ _ q => q.elim, fun _ _ _ _ _ _ q => q.elim, fun _ _ _ _ _ _ _ _ _ _ q => q.elim⟩⟩
theorem FreshX.under {B F0 F H F' H' : Hp} {v : V} {d : PyData} {L : List Addr} (f : FreshX z F H F' H' v d L) (g : Grow z F0 B F H) : FreshX z F0 B F' H' v d L := ⟨g.trans f.g, f.own, f.nd, fun b hb => ⟨g.dom b (f.new b hb).1, (f.new b hb).2⟩⟩
theorem jf_ret (h : JO z X e te we) : JF z X [.Return (some e) pos] (tRet te) we := ⟨pss_one (ps_ret h.pe), fun B F0 σ H F en D P s g hw kk => h.de B σ H F en s _ _ hw fun v H1 F1 d n1 L f s1 q1 => kk v H1 F1 d n1 L (f.under g) s1 q1⟩
end
section
variable {P : Program} {w : World} {K : PySem.W.Frag} {mg : Str → Option Value} {base : Heap} {k : Nat} {x : Str} {st : Stmt} {ps N : List Str} {sp : FSp}
theorem f_of (D : DefT K mg x st ps) (N : List Str) (S : FnScope N ps (defScope st))
    (hbody : ∀ (f : Addr) (cdv : Value) (A : Around) (outer : List Env) (s : Shared) (H : Hp) (E : XK), Room k (A.deeper (envOfC x (defScope st) s.heap.objs.size f cdv)) →
      ∃ t wb, JF z0 (cxOf CX0 P w K mg base N x (defScope st) f cdv A outer s H E).nox (defBody st) t wb ∧ ∀ ds R, ds.length = ps.length → sp ds R → wb (startE N ds) fun d _ => R d) : DefF P w K mg base (k + 1) x ps.length sp := by
  refine v_of D S (fun vs H Q E h => h.1) fun f cdv A outer s H vs Q E hr h => ?_
  obtain ⟨hl, F0, ds, R, e, r, q, kk⟩ := h
  obtain ⟨t, wb, J, hwb⟩ := hbody f cdv A outer s H E hr
  refine ⟨t, J.ps, ?_⟩
  have hs : Sit z0 H (L2.start N vs) H F0 (startE N ds) := by
    have := sit_vals (z := z0) (B := H) (m := N.length - vs.length) (n := 0) r ⟨trivial, fun _ q => (nomatch q)⟩ (fun _ q => (zv_z0 q).elim) e
    unfold L2.start startE
    rw [← r.length]
    exact this
  exact J.de H F0 (L2.start N vs) H F0 _ _ _ hs (Grow.refl e) (hwb ds R (by rw [← r.length]; exact hl) q) fun v H' F' d n L f _ q' => kk v H' F' L d f q'
end
end OT
/-! Owned trees, 5: closures that hand back fresh trees. -/
namespace OT
open PySem PySem.Spec PyProof.Rows L2 DD CL LamX NdefX
open Evl (Ex)
abbrev FOb := List V → List PyData → (PyData → Prop) → Prop
/-- the zone of the stream alone -/
def zo (p : Option (Addr × Addr)) : Zn := ⟨p, [], fun _ _ _ => False⟩
theorem zv_zo {p : Option (Addr × Addr)} {c : Addr} : Zv (zo p) c ↔ Sv p c := ⟨fun h => h.elim id fun ⟨_, q⟩ => (nomatch q), .inl⟩
def FOut (p : Option (Addr × Addr)) (m n : Nat) (F H : Hp) (R : PyData → Prop) (Q : VK) : Prop := ∀ v H' F' L d, FreshX (zo p) F H F' H' v d L → StmO p (n + m) H' → R d → Q v H'
theorem stm_keep {p : Option (Addr × Addr)} {n : Nat} {H H' : Hp} (s : StmO p n H) (k : ∀ b xs, Sv p b → H b = some (.lst xs) → H' b = some (.lst xs)) : StmO p n H' := by
  cases p with
  | none => trivial
  | some q =>
    obtain ⟨st, sl⟩ := q
    obtain ⟨ns, c, kk, m, e1, e2, r⟩ := s
    exact ⟨ns, c, kk, m, k _ _ (.inl rfl) e1, k _ _ (.inr rfl) e2, r⟩
/-- f, whose objects are D, its cells C, called with arguments, answers as ob says; Fc: what it took, frozen -/
structure ThunkF (p : Option (Addr × Addr)) (m : Nat) (P : Program) (w : World) (K : PySem.W.Frag) (mg : Str → Option Value) (base : Heap) (k np : Nat) (D : Hp) (C : List Addr) (Fc : Hp) (f : Addr) (ob : FOb) : Prop where
  ext : ∀ b o, D b = some o → ∃ φ, o = .ext φ
  cells : ∀ c ∈ C, ∃ o, D c = some o
  fn : ∃ F : LF, D f = some (LfO f F)
  run : ∀ (A : Around) (outer : List Env) (s : Shared) (H F : Hp) (us : List Value) (vs : List V) (ds : List PyData) (R : PyData → Prop) (Q : VK) (E : XK),
    Room k A → Env0 P w K mg base A outer s H → Ex D H → Dj C F → Ex Fc F → Ex F H → (∃ n, StmO p n H ∧ n ≤ 1000000000000 ∧ FOut p m n F H R Q) → (∀ b, Sv p b → F b = none) → Vals vs us → RpA F vs ds → vs.length = np → ob vs ds R → codeAny (model P w) A (.call (.ref f) ⟨us, []⟩) (CR (L2.CX P w) outer P w H s Q E) s
section
variable {P : Program} {w : World} {K : PySem.W.Frag} {mg : Str → Option Value} {base : Heap} {N ps fr : List Str} {F : LF} {f : Addr} {k : Nat} {C : List Addr} {ws : List V} {D Fc : Hp} {ob : FOb} {p : Option (Addr × Addr)} {m : Nat}
/-- .. by a reading of its body; Da: what else stands in the heap -/
theorem thunkF_of {Da : Hp} (S : NScope N ps fr F.scope) (hbd : ∀ (pm ctv : Value) (us : List Value), us.length = ps.length → bindArgs (PySem.W.kla_fn "<lambda>" F.q F.params F.body F.scope F.cl pm (.ref F.c) ctv) ⟨us, []⟩ = pure (ps.zip us))
    (dE : ∀ b o, D b = some o → ∃ φ, o = .ext φ) (df : D f = some (LfO f F)) (dc : D F.c = some (CodeO F.c F.q)) (cd : CellsD D F fr ws C) 
    (hDa : Ex Da D) (hDaC : ∀ b o, Da b = some o → b ∉ C)
    (hbody : ∀ (A : Around) (outer : List Env) (s : Shared) (H : Hp) (E : XK), Room k (A.deeper (envF F.nf f s.heap.objs.size)) → Takes (ncx (L2.CX P w) P w K mg base N F.nf f A outer s H E) (fun cls d _ H => (zX E).W cls d H) →
      ∃ t, PE (ncx (L2.CX P w) P w K mg base N F.nf f A outer s H E) F.body t ∧ ∀ (vs : List V) (ds : List PyData) (R : PyData → Prop) (F0 : Hp) (Q : VK), vs.length = ps.length → ob vs ds R → RpA F0 vs ds → Ex Da H → Ex Fc F0 → Ex F0 H → (∃ n, StmO p n H ∧ n ≤ 1000000000000 ∧ FOut p m n F0 H R Q) → (∀ b, Sv p b → F0 b = none) → t (startF N vs (ws.map some)) H Q) :
    ThunkF p m P w K mg base (k + 1) ps.length D C Fc f ob := by
  refine ⟨dE, fun c hc => (cd.all c hc).elim fun o h => ⟨_, h.choose_spec.1⟩, ⟨F, df⟩, fun A outer s H F0 us vs ds R Q E hr e0 hD hDj hFc hF ⟨n, hst, hn, out⟩ hoff r ra hl hob => ?_⟩
  have hC : ∀ c ∈ C, ∃ o, H c = some (CellX c o) := fun c hc => by
    obtain ⟨o, u, e, _⟩ := cd.all c hc
    exact ⟨o, hD c _ e⟩
  have cell : ∀ c ∈ C, ∃ o u, s.heap.get? c = some o ∧ o.data = .cell u := fun c hc => by
    obtain ⟨o, u, e, h⟩ := cd.all c hc
    exact ⟨o, u, cell_at e0.hok (hD c _ e), h⟩
  have nf : f ∉ C := fun q => by
    obtain ⟨o, u, e1, e2⟩ := cell f q
    obtain ⟨_, _, e3⟩ := lf_at e0.hok (hD f _ df)
    rw [e1] at e3
    cases e3
    cases e2
  have nc : F.c ∉ C := fun q => by
    obtain ⟨o, u, e1, e2⟩ := cell _ q
    obtain ⟨_, oc, vs, t, e0', e3, e4, _⟩ := codeO_at e0.hok (hD F.c _ dc)
    cases e0'
    rw [e1] at e3
    cases e3
    rw [e2] at e4
    cases e4
  refine codeAny_mono (lam_go (N := N) (fr := fr) (ws := ws.map some) S hbd hr (env0_off e0 hC) (by rw [off_out nf]; exact hD f _ df) (by rw [off_out nc]; exact hD _ _ dc) ?_ r hl fun hr' => ?_) fun r s' h => cr_on e0 hC h
  · refine ⟨by rw [List.length_map]; exact cd.len, fun y c e => ⟨off_in (cd.cl y c e), ?_⟩, cd.inj, fun i y e => ?_⟩
    · obtain ⟨o, u, e1, e2⟩ := cell c (cd.cl y c e)
      exact ⟨u, o, e1, e2⟩
    · obtain ⟨c, o, u, v, h1, h2, h3, h4, h5⟩ := cd.val i y e
      refine ⟨c, h1, fun v' hv => ⟨u, ?_, o, cell_at e0.hok (hD c _ h2), h3⟩⟩
      rw [List.getElem?_map, h4] at hv
      cases hv
      exact h5
  · have eF : Ex F0 (off H C) := fun b u e => by
      have hb : b ∉ C := fun q => by
        rw [hDj b q] at e
        cases e
      rw [off_out hb]
      exact hF b u e
    have eDa : Ex Da (off H C) := fun b u e => by
      rw [off_out (hDaC b u e)]
      exact hD b u (hDa b u e)
    have tk : Takes (ncx (L2.CX P w) P w K mg base N F.nf f A outer s (off H C) fun cls d H' => (∀ c ∈ C, H' c = none) → E cls d (put H' H C)) (fun cls d _ H1 => (zX fun cls d H' => (∀ c ∈ C, H' c = none) → E cls d (put H' H C)).W cls d H1) := takes_of rfl rfl rfl rfl
    obtain ⟨t, pe, hw⟩ := hbody A outer s (off H C) (fun cls d H' => (∀ c ∈ C, H' c = none) → E cls d (put H' H C)) hr' tk
    have nl : ∀ b xs, H b = some (.lst xs) → b ∉ C := fun b xs e q => by
      obtain ⟨o, e'⟩ := hC b q
      rw [e] at e'; cases e'
    refine ⟨t, pe, hw vs ds R F0 _ hl hob ra eDa hFc eF ⟨n, stm_keep hst fun b xs _ e => by rw [off_out (nl b xs e)]; exact e, hn, fun v H' F' L d fx hst' q hno => ?_⟩ hoff⟩
    have keepP : ∀ b u, H' b = some u → put H' H C b = some u := fun b u e => by
      have hb : b ∉ C := fun q => by rw [hno b q] at e; cases e
      rw [put_out hb]; exact e
    refine out v _ F' L d ⟨grow_put fx.g (fun c h => h) hno, fx.own.keep (fun _ _ q => q) (fun b xs e => keepP b _ e) (fun b hb o e => keepP b o e), fx.nd, fun b hb => ⟨?_, (fx.new b hb).2⟩⟩ (stm_keep hst' fun b xs _ e => keepP b _ e) q
    have hb2 : b ∉ C := fun q => by
      obtain ⟨xs, e⟩ := fx.own.kind b hb
      rw [hno b q] at e; cases e
    have := (fx.new b hb).1
    rwa [off_out hb2] at this
end
theorem ThunkF.mono {P : Program} {w : World} {K : PySem.W.Frag} {mg : Str → Option Value} {base : Heap} {j k np : Nat} {D Fc : Hp} {C : List Addr} {f : Addr} {ob : FOb} {p : Option (Addr × Addr)} {m : Nat} (T : ThunkF p m P w K mg base j np D C Fc f ob) (h : j ≤ k) : ThunkF p m P w K mg base k np D C Fc f ob :=
  ⟨T.ext, T.cells, T.fn, fun A outer s H F us vs ds R Q E hr => T.run A outer s H F us vs ds R Q E (hr.mono h)⟩
section
variable {X : Cx} {σ : L2.St} {G H1 : Hp} {C : List Addr} {f c' : Addr} {q : Str} {params : Arguments} {body : Expr} {scope : Scope} {N ps fr : List Str} {js : List Nat} {k : Nat} {ws : List V} {Fc : Hp} {ob : FOb} {p : Option (Addr × Addr)} {m : Nat}
theorem mk_thunkF {Da : Hp} (tl : Tells X σ G C) (hn : ∀ c ∈ C, H1 c = none) (hf : H1 f = some (LfO f (mkLam q params body scope X.env.cells c'))) (hc : H1 c' = some (CodeO c' q)) (S : NScope N ps fr scope)
    (hbd : ∀ (cl : List (Str × Addr)) (pm ctv : Value) (us : List Value), us.length = ps.length → bindArgs (PySem.W.kla_fn "<lambda>" q params body scope cl pm (.ref c') ctv) ⟨us, []⟩ = pure (ps.zip us))
    (hfr : ∀ y ∈ fr, (y, NameKind.free) ∈ scope.names) (hkin : ∀ y ∈ scope.names, y.2 = .free → X.env.scope.names.lookup y.1 = some .cell ∨ X.env.scope.names.lookup y.1 = some .free) (hjs : js.map (fun j => X.N[j]?) = fr.map some) (hσ : js.map (fun j => σ[j]?) = ws.map fun v => some (some v)) (hDx : ∀ b o, Da b = some o → ∃ φ, o = .ext φ) (hDa : Ex Da H1)
    (hbody : ∀ (A : Around) (outer : List Env) (s : Shared) (H : Hp) (E : XK), Room k (A.deeper (envF (mkLam q params body scope X.env.cells c').nf f s.heap.objs.size)) → Takes (ncx (L2.CX X.prog X.w) X.prog X.w X.K X.mg X.base N (mkLam q params body scope X.env.cells c').nf f A outer s H E) (fun cls d _ H => (zX E).W cls d H) →
      ∃ t, PE (ncx (L2.CX X.prog X.w) X.prog X.w X.K X.mg X.base N (mkLam q params body scope X.env.cells c').nf f A outer s H E) body t ∧ ∀ (vs : List V) (ds : List PyData) (R : PyData → Prop) (F0 : Hp) (Q : VK), vs.length = ps.length → ob vs ds R → RpA F0 vs ds → Ex Da H → Ex Fc F0 → Ex F0 H → (∃ n, StmO p n H ∧ n ≤ 1000000000000 ∧ FOut p m n F0 H R Q) → (∀ b, Sv p b → F0 b = none) → t (startF N vs (ws.map some)) H Q) :
    ThunkF p m X.prog X.w X.K X.mg X.base (k + 1) ps.length (dOfV f c' H1 G Da C) C Fc f ob ∧ Ex (dOfV f c' H1 G Da C) (put H1 G C) ∧ ∀ F, Ex F H1 → Dj C F := by
  have nf : f ∉ C := fun z => by rw [hn f z] at hf; cases hf
  have nc : c' ∉ C := fun z => by rw [hn c' z] at hc; cases hc
  have free : ∀ y ∈ scope.names, y.2 = .free → ∃ c, X.env.cells.lookup y.1 = some c := fun y hy e => tl.has _ (hkin y hy e)
  have dC : ∀ c ∈ C, dOfV f c' H1 G Da C c = G c := fun c h => if_pos h
  have df : dOfV f c' H1 G Da C f = some (LfO f (mkLam q params body scope X.env.cells c')) := by unfold dOfV; rw [if_neg nf, if_pos (.inl rfl)]; exact hf
  have dc : dOfV f c' H1 G Da C c' = some (CodeO c' q) := by unfold dOfV; rw [if_neg nc, if_pos (.inr rfl)]; exact hc
  have cases_ : ∀ b o, dOfV f c' H1 G Da C b = some o → (b ∈ C ∧ G b = some o) ∨ (b ∉ C ∧ ((b = f ∨ b = c') ∨ Da b = some o) ∧ H1 b = some o) := fun b o h => by
    unfold dOfV at h
    by_cases h1 : b ∈ C
    · rw [if_pos h1] at h; exact .inl ⟨h1, h⟩
    · rw [if_neg h1] at h
      by_cases h2 : b = f ∨ b = c'
      · rw [if_pos h2] at h; exact .inr ⟨h1, .inl h2, h⟩
      · rw [if_neg h2] at h; exact .inr ⟨h1, .inr h, hDa b o h⟩
  have cf : ∀ {y : Str} {c : Addr}, (cloFrom X.env.cells scope.names []).lookup y = some c → X.env.cells.lookup y = some c := fun e => clo_cm free e
  have lens : js.length = fr.length ∧ js.length = ws.length := ⟨by simpa using congrArg List.length hjs, by simpa using congrArg List.length hσ⟩
  have nDa : ∀ b o, Da b = some o → b ∉ C := fun b o h q => by
    have := hDa b o h
    rw [hn b q] at this; cases this
  refine ⟨thunkF_of (Da := Da) (F := mkLam q params body scope X.env.cells c') S (fun pm ctv us => hbd _ pm ctv us) (fun b o h => ?_) df dc ⟨fun c h => ?_, fun y c h => tl.cl y c (cf h), fun x y c h1 h2 => tl.inj x y c (cf h1) (cf h2), lens.2.symm.trans lens.1, fun i y h => ?_⟩ (fun b o h => ?_) nDa hbody, fun b o h => ?_, fun F h c hcC => ?_⟩
  · rcases cases_ b o h with ⟨h1, h2⟩ | ⟨_, (rfl | rfl) | h3, h2⟩
    · obtain ⟨o', u, e, _⟩ := tl.all b h1
      rw [e] at h2
      cases h2
      exact ⟨_, rfl⟩
    · rw [hf] at h2; cases h2; exact ⟨_, rfl⟩
    · rw [hc] at h2; cases h2; exact ⟨_, rfl⟩
    · exact hDx b o h3
  · obtain ⟨o', u, e, d⟩ := tl.all c h
    exact ⟨o', u, by rw [dC c h]; exact e, d⟩
  · have hi : i < js.length := by
      rw [lens.1]; exact (List.getElem?_eq_some_iff.mp h).1
    have e1 : X.N[js[i]]? = some y := by
      have := congrArg (fun l => l[i]?) hjs
      simp only [List.getElem?_map] at this
      rw [List.getElem?_eq_getElem hi, h] at this
      exact Option.some.inj this
    obtain ⟨v, e2, e3⟩ : ∃ v, ws[i]? = some v ∧ σ[js[i]]? = some (some v) := by
      have := congrArg (fun l => l[i]?) hσ
      simp only [List.getElem?_map] at this
      rw [List.getElem?_eq_getElem hi] at this
      cases hw : ws[i]? with
      | none => rw [hw] at this; cases this
      | some v => rw [hw] at this; exact ⟨v, rfl, Option.some.inj this⟩
    have yin := hfr y (List.mem_of_getElem? h)
    obtain ⟨c, o, u, g1, g2, g3, g4⟩ := tl.val y js[i] v e1 e3 (hkin _ yin rfl)
    exact ⟨c, o, u, v, clo_has free yin g1, by rw [dC c (tl.cl y c g1)]; exact g2, g3, e2, g4⟩
  · unfold dOfV
    rw [if_neg (nDa b o h)]
    by_cases h2 : b = f ∨ b = c'
    · rw [if_pos h2]; exact hDa b o h
    · rw [if_neg h2]; exact h
  · rcases cases_ b o h with ⟨h1, h2⟩ | ⟨h1, _, h2⟩
    · rw [put_in h1]; exact h2
    · rw [put_out h1]; exact h2
  · cases e : F c with
    | none => rfl
    | some u => have := h c u e; rw [hn c hcC] at this; cases this
end
end OT
/-! Owned trees, 6: closures called by name; the promise of _law_w_twice. -/
namespace OT
open PySem PySem.Spec PyProof.Rows L2 DD CL LamX NdefX
open Evl (Ex)
section
variable {X : Cx} {i k j np m : Nat} {x : Str} {p pos : Pos} {pz : Option (Addr × Addr)}
/-- what a call of such a closure asks -/
def AskF (pz : Option (Addr × Addr)) (m : Nat) (P : Program) (w : World) (K : PySem.W.Frag) (mg : Str → Option Value) (base : Heap) (k np : Nat) (f : Addr) (vs : List V) (H : Hp) (Q : VK) : Prop := ∃ (D : Hp) (C : List Addr) (Fc F : Hp) (ob : FOb) (ds : List PyData) (R : PyData → Prop), ThunkF pz m P w K mg base k np D C Fc f ob ∧ Ex D H ∧ Dj C F ∧ Ex Fc F ∧ Ex F H ∧ RpA F vs ds ∧ vs.length = np ∧ ob vs ds R ∧ (∃ n, StmO pz n H ∧ n ≤ 1000000000000 ∧ FOut pz m n F H R Q) ∧ ∀ b, Sv pz b → F b = none
theorem run_thunkF {pins : List (Addr × Obj)} {σ : L2.St} {H : Hp} {s : Shared} {f : Addr} {us : List Value} {vs : List V} {Q : VK} (hr : Room j X.A) (hk : k ≤ j) (I : Inv X pins σ H s) (r : Vals vs us) (h : AskF pz m X.prog X.w X.K X.mg X.base k np f vs H Q) :
    wpAny (model X.prog X.w) X.A (call (.ref f) us) (EP X pins σ Q) X.xe s := by
  obtain ⟨D, C, Fc, F, ob, ds, R, T, h1, h2, h3, h4, h5, h6, h7, h8, h9⟩ := h
  refine wpAny_call (codeAny_mono (T.run X.A X.stack s H F us vs ds R Q (fun _ _ _ => False) (hr.mono hk) I.env0 h1 h2 h3 h4 h8 h9 r h5 h6 h7) fun r s' hq => ?_)
  cases r with
  | error e => exact takes0 e s' (XE.of_call I (fun _ _ _ h => h) hq)
  | ok fl =>
    cases fl with
    | ret u => exact I.after hq
    | next => exact False.elim hq
    | brk => exact False.elim hq
    | cont => exact False.elim hq
theorem pe_askF0 (hr : Room j X.A) (hk : k ≤ j) (hN : X.N[i]? = some x) (hv : Vis X.env.scope x) (hd : (x == ("__debug__" : Str)) = false := by decide) (hcd : (x == ("__classdict__" : Str)) = false := by decide) :
    PE X (.Call (.Name x p) [] [] pos) (fun σ H Q => ∃ f, σ[i]? = some (some (.ref f)) ∧ AskF pz m X.prog X.w X.K X.mg X.base k np f [] H Q) := by
  refine ⟨fun pins s σ H Q I h => ?_⟩
  obtain ⟨f, hs, ha⟩ := h
  refine wpAny_Call_Name_kw (thn ((pe_var (pos := p) hN hv hd hcd).run pins s σ H (fun v H1 => v = .ref f ∧ H1 = H) I ⟨.ref f, hs, rfl, rfl⟩) fun u s1 hh => ?_)
  obtain ⟨v, H1, I1, r1, rfl, rfl⟩ := hh
  obtain rfl : u = Value.ref f := r1
  obtain ⟨D, C, Fc, F, ob, ds, R, T, h1, _⟩ := id ha
  obtain ⟨Fw, ef⟩ := T.fn
  refine PySem.W.callWith_F0 (first := []) (fnAt_lf I1.hok (h1 f _ ef)) ?_
  show wpAny _ _ (call (.ref f) []) _ _ _
  exact run_thunkF hr hk I1 .nil ha
end
theorem Chg.skip {L : List Addr} {H H1 H2 : Hp} (a : Chg [] H H1) (b : Chg L H1 H2) (h : ∀ x ∈ L, H x = none) : Chg [] H H2 := ⟨fun c o _ e => b.keep c o (fun q => by rw [h c q] at e; cases e) (a.keep c o (fun q => nomatch q) e), fun c e => a.dom c (b.dom c e)⟩
theorem Chg.grow {F H F' H' : Hp} (g : Grow z0 F H F' H') : Chg [] H H' := Chg.of g
theorem Chg.sub {F H H' : Hp} (c : Chg [] H H') (e : Ex F H) : Ex F H' := fun b u q => c.ex b u (e b u q)
theorem Chg.to {F H H' : Hp} (c : Chg [] H H') (e : Ex F H) : Grow z0 F H F H' := ⟨fun b o _ h => c.ex b o h, c.dom, Evl.Ex.refl F, c.sub e, fun _ _ h => .inl h⟩
theorem Own.stay {F F' H H' : Hp} {v : V} {d : PyData} {L : List Addr} (o : Own F H v d L) (c : Chg [] H H') (e : Ex F F') : Own F' H' v d L := o.keep e (fun b xs q => c.ex _ _ q) fun b _ u q => c.ex b u q
/-- from H to H', the objects at L and the stream alone may have changed -/
structure Cz (p : Option (Addr × Addr)) (H H' : Hp) : Prop where
  keep : ∀ b o, ¬ Sv p b → H b = some o → H' b = some o
  dom : ∀ b, H' b = none → H b = none
section
variable {p : Option (Addr × Addr)} {H H1 H2 F F' : Hp} {n : Nat} {v : V} {d : PyData} {L : List Addr}
theorem Cz.of {F1 : Hp} (g : Grow (zo p) F H F1 H1) : Cz p H H1 := ⟨fun b o h e => g.keep b o (fun q => h (zv_zo.mp q)) e, g.dom⟩
theorem Chg.z (c : Chg [] H H1) : Cz p H H1 := ⟨fun b o _ e => c.ex b o e, c.dom⟩
theorem Cz.tr (a : Cz p H H1) (b : Cz p H1 H2) : Cz p H H2 := ⟨fun c o n e => b.keep c o n (a.keep c o n e), fun c e => a.dom c (b.dom c e)⟩
theorem Cz.skip (a : Cz p H H1) (b : Chg L H1 H2) (h : ∀ x ∈ L, H x = none) : Cz p H H2 := ⟨fun c o n e => b.keep c o (fun q => by rw [h c q] at e; cases e) (a.keep c o n e), fun c e => a.dom c (b.dom c e)⟩
theorem Cz.sub (c : Cz p H H1) (e : Ex F H) (o : ∀ b, Sv p b → F b = none) : Ex F H1 := fun b u q => c.keep b u (fun z => by rw [o b z] at q; cases q) (e b u q)
theorem Cz.to (c : Cz p H H1) (e : Ex F H) (o : ∀ b, Sv p b → F b = none) : Grow (zo p) F H F H1 := ⟨fun b u h q => c.keep b u (fun z => h (zv_zo.mpr z)) q, c.dom, Evl.Ex.refl F, c.sub e o, fun _ _ h => .inl h⟩
theorem Own.stayZ {F' : Hp} (o : Own F H v d L) (c : Cz p H H1) (e : Ex F F') (s : StmO p n H) (hL : ∀ b ∈ L, ¬ Sv p b) : Own F' H1 v d L := o.keep e (fun b xs q => c.keep b _ (fun z => by
  obtain ⟨ys, k⟩ := s.lst z
  rw [q] at k; cases k) q) fun b hb u q => c.keep b u (hL b hb) q
theorem stm_chg (s : StmO p n H) (c : Chg L H H1) (h : ∀ b ∈ L, ¬ Sv p b) : StmO p n H1 := stm_keep s fun b xs q e => c.keep b _ (fun z => h b z q) e
theorem stm_not (s : StmO p n H) {b : Addr} (h : H b = none) : ¬ Sv p b := fun z => by
  obtain ⟨xs, k⟩ := s.lst z
  rw [h] at k; cases k
theorem stm_mono {n' : Nat} (s : StmO p n H) (h : n ≤ n') : StmO p n' H := by
  cases p with
  | none => trivial
  | some q =>
    obtain ⟨ns, c, k, m, e1, e2, h0, h1, h2, r⟩ := s
    exact ⟨ns, c, k, m, e1, e2, h0, h1, by omega, r⟩
theorem off_chg {n' : Nat} (g : Grow (zo p) F H F' H1) (s : StmO p n H) (s1 : StmO p n' H1) (o : ∀ b, Sv p b → F b = none) : ∀ b, Sv p b → F' b = none := fun b z => by
  obtain ⟨xs, e⟩ := s.lst z
  rcases g.new b (by rw [e]; simp) (o b z) with q | ⟨ys, q⟩
  · exact q
  · obtain ⟨zs, e1⟩ := s1.lst z
    have := g.sub _ _ q
    rw [e1] at this; cases this
theorem DjZ.grow {C : List Addr} {D : Hp} (h : Dj C F) (hc : ∀ c ∈ C, ∃ o, D c = some o) (x : ∀ b o, D b = some o → ∃ φ, o = .ext φ) (e : Ex D H) (s : StmO p n H) (g : Grow (zo p) F H F' H1) : Dj C F' := fun c q => by
  obtain ⟨o, ho⟩ := hc c q
  obtain ⟨φ, rfl⟩ := x c o ho
  refine g.apart (e c _ ho) (fun z => ?_) (fun _ z => nomatch z) (h c q)
  obtain ⟨xs, k⟩ := s.lst (zv_zo.mp z)
  rw [e c _ ho] at k; cases k
/-- a closure's objects stand -/
theorem Cz.objs {D : Hp} (c : Cz p H H1) (x : ∀ b o, D b = some o → ∃ φ, o = .ext φ) (e : Ex D H) (s : StmO p n H) : Ex D H1 := fun b o h => c.keep b o (fun z => by
  obtain ⟨φ, rfl⟩ := x b o h
  obtain ⟨xs, k⟩ := s.lst z
  rw [e b _ h] at k; cases k) (e b o h)
end
/-- the promise of _law_w_twice(due, first, other) -/
def spTwice (P : Program) (w : World) (K : PySem.W.Frag) (mg : Str → Option Value) (base : Heap) (k : Nat) (ok : PyData → Prop) : Sp := fun vs H Q _ => ∃ (dv : V) (f1 f2 : Addr) (F : Hp) (due : PyData) (D1 : Hp) (C1 : List Addr) (G1 D2 : Hp) (C2 : List Addr) (G2 : Hp) (p : Option (Addr × Addr)) (m n : Nat), vs = [dv, .ref f1, .ref f2] ∧ Ex F H ∧ Rp F dv due ∧ ok due ∧
  ThunkF p m P w K mg base k 0 D1 C1 G1 f1 (fun _ _ R => R due) ∧ ThunkF p m P w K mg base k 0 D2 C2 G2 f2 (fun _ _ R => R due) ∧ Ex D1 H ∧ Ex D2 H ∧ Dj C1 F ∧ Dj C2 F ∧ Ex G1 F ∧ Ex G2 F ∧ StmO p n H ∧ n + 3 * m ≤ 1000000000000 ∧ (∀ b, Sv p b → F b = none) ∧ ∀ H', Grow (zo p) F H F H' → StmO p (n + 3 * m) H' → Q (.bl true) H'
/-- a closure's objects stand whatever owned lists do -/
theorem Chg.objs {L : List Addr} {D H H' : Hp} (c : Chg L H H') (hk : ∀ b ∈ L, ∃ xs, H b = some (.lst xs)) (x : ∀ b o, D b = some o → ∃ φ, o = .ext φ) (e : Ex D H) : Ex D H' := fun b o h => c.keep b o (fun q => by
  obtain ⟨xs, k⟩ := hk b q
  obtain ⟨φ, rfl⟩ := x b o h
  rw [e b _ h] at k; cases k) (e b o h)
end OT
/-! Owned trees, 7: raise C(e); fresh trees by calls with names; a list's index. -/
namespace OT
open PySem PySem.Spec PyProof.Rows L2 DD
open Evl (Ex)
section
variable {z : Zn} {X : Cx} {e : Expr} {es : List Expr} {t te : TE} {ta tk : TA} {we : WE} {wa wk : WA} {pos p p1 : Pos} {k j np : Nat} {x fld : Str} {C : Addr} {ks ps : List Str} {kws : List Keyword} {sp : FSp} {st : Stmt}
@[simp] def wRaiseE (C : Addr) (fld : Str) (we : WE) : WS := fun P en => we en fun d _ => ∀ v, P.xx (.ref C) fld v d
theorem js_raiseE (R : ErrC X.prog X.w X.K X.mg X.base x fld C) (hr : Room (k + 2) X.A) (tk : Takes X (fun cls d _ H => z.W cls d H)) (h : JE z X e te we) (hc : X.calm = true := by rfl) (hg : Gl X x := by rfl)
    (hdb : (x == ("__debug__" : Str)) = false := by decide) (hst : starEach (e :: []) X.env = (false, eval e X.env) :: starEach [] X.env := by rfl) (hpl : (backTo pos (starEach [] X.env)).any (·.1) = false := by rfl) :
    JS z X (.Raise (some (.Call (.Name x p) [e] [] pos)) none p1) (tRaise1 C fld z.W te) (wRaiseE C fld we) := ⟨ps_raise1 R hr tk h.pe hc hg hdb hst hpl, fun B F0 σ H F en D P s g hw kk => by
  refine h.de B σ H F en s _ _ hw fun v H1 F1 d n1 g1 s1 r1 q1 => ?_
  exact fun dx hd => kk.xx _ v d fld dx _ F1 ((g.trans g1).trans (Grow.fresh g1.sub hd)) upd_same r1 (q1 v)⟩
/-- a def that hands back a fresh tree, its text known: by names, too -/
structure DefFS (P : Program) (w : World) (K : PySem.W.Frag) (mg : Str → Option Value) (base : Heap) (k : Nat) (x : Str) (st : Stmt) (ps : List Str) (sp : FSp) : Prop where
  ex : ∃ f fd, Fun K x x st f fd ∧ FnOk P w K mg base CX0 k f fd ps (spFr ps.length sp) ∧ mg x = some (.ref f) ∧ PySem.W.keepIn K (.ref f) = true ∧ Binds K fd ps []
theorem DefFS.f {P : Program} {w : World} {K : PySem.W.Frag} {mg : Str → Option Value} {base : Heap} (D : DefFS P w K mg base k x st ps sp) : DefF P w K mg base k x ps.length sp := by
  obtain ⟨f, fd, F, h⟩ := D.ex
  exact ⟨f, fd, ps, h⟩
theorem DefFS.kw (D : DefFS X.prog X.w X.K X.mg X.base j x st ps sp) (ks : List Str) (g : {α : Type} → List α → List α)
    (hb : ∀ (kV doc pm : Value) (an : Option Addr) (cdv ct : Value) (ws : List Value), ws.length = ks.length → bindArgs (PySem.W.fnOf x x (defArgs st) (defBody st) (defScope st) .none kV doc pm an cdv ct) ⟨[], ks.zip ws⟩ = pure (ps.zip (g ws)))
    (hl : ∀ {α : Type} (ws : List α), ws.length = ks.length → (g ws).length = ps.length) (hrel : ∀ {zs : List V} {ws : List Value}, Vals zs ws → Vals (g zs) (g ws)) (hra : ∀ {F : Hp} {zs : List V} {ds : List PyData}, RpA F zs ds → RpA F (g zs) (g ds)) :
    ∃ f fd, FnOk X.prog X.w X.K X.mg X.base CX0 j f fd ps (spFr ps.length sp) ∧ X.mg x = some (.ref f) ∧ PySem.W.keepIn X.K (.ref f) = true ∧ KwB X.K fd ps ks g := by
  obtain ⟨f, fd, F, G, h1, h2, _⟩ := D.ex
  obtain ⟨oc, od, kV, doc, pm, an, cdv, ct, osl, rfl, lk, hcd⟩ := F.ex
  exact ⟨f, _, G, h1, h2, ⟨fun s ws _ _ hw => BindsTo.of_eq (hb kV doc pm an cdv ct ws hw), hl, hrel, hra⟩⟩
@[simp] def wCallFW (m : Nat) (g : {α : Type} → List α → List α) (np : Nat) (sp : FSp) (w : WA) : WE := fun en P => w en fun ds n => ds.length = m ∧ (g ds).length = np ∧ sp (g ds) fun d => P d n
theorem jo_kw {g : {α : Type} → List α → List α} (D : ∃ f fd, FnOk X.prog X.w X.K X.mg X.base CX0 j f fd ps (spFr ps.length sp) ∧ X.mg x = some (.ref f) ∧ PySem.W.keepIn X.K (.ref f) = true ∧ KwB X.K fd ps ks g) (hr : Room k X.A) (ha : JK z X kws tk wk)
    (hk : j ≤ k := by first | decide | omega) (hg : Gl X x := by rfl) (hall : (backToKw pos (keywordEach kws X.env)).all (·.1.isSome) = true := by rfl) (hks : (backToKw pos (keywordEach kws X.env)).filterMap (·.1) = ks := by rfl)
    (hdb : (x == ("__debug__" : Str)) = false := by decide) (hpl : ((backTo pos (starEach [] X.env)).any (·.1) || (backToKw pos (keywordEach kws X.env)).any (·.1.isNone)) = false := by rfl) :
    JO z X (.Call (.Name x p) [] kws pos) (tCallW (spFr ps.length sp) ks.length g E0 tk) (wCallFW ks.length g ps.length sp wk) := by
  obtain ⟨f, fd, F, hm, hkp, hkw⟩ := D
  refine ⟨pe_callW F (hr.mono hk) hg hm hkp hkw pass0 ha.pk hall hks hdb hpl, fun B σ H F0 en s P Q hw kk => ?_⟩
  refine ha.de B σ H F0 en s _ _ hw fun vs H1 F1 ds n1 g1 s1 r1 q1 => ?_
  have r2 := hkw.rpa r1
  exact ⟨by rw [r1.length]; exact q1.1, by rw [r2.length]; exact q1.2.1, F1, _, _, g1.sub, r2, q1.2.2, fun v H2 F2 L d f q => kk v H2 F2 d n1 L (f.after g1) (s1.ex f.g.ex) q⟩
end
section
variable {P : Program} {w : World} {K : PySem.W.Frag} {mg : Str → Option Value} {base : Heap} {k : Nat} {x : Str} {st : Stmt} {ps N : List Str} {sp : FSp}
theorem fs_of (D : DefT K mg x st ps) (N : List Str) (S : FnScope N ps (defScope st))
    (hbody : ∀ (f : Addr) (cdv : Value) (A : Around) (outer : List Env) (s : Shared) (H : Hp) (E : XK), Room k (A.deeper (envOfC x (defScope st) s.heap.objs.size f cdv)) →
      ∃ t wb, JF z0 (cxOf CX0 P w K mg base N x (defScope st) f cdv A outer s H E).nox (defBody st) t wb ∧ ∀ ds R, ds.length = ps.length → sp ds R → wb (startE N ds) fun d _ => R d) : DefFS P w K mg base (k + 1) x st ps sp := by
  obtain ⟨f, fd, F, hm, hb⟩ := D.ex
  refine ⟨f, fd, F, F.ok S (fun vs H Q E h => h.1) (fun cdv A outer s H vs Q E hr h => ?_), hm, F.kp, hb⟩
  obtain ⟨hl, F0, ds, R, e, r, q, kk⟩ := h
  obtain ⟨t, wb, J, hwb⟩ := hbody f cdv A outer s H E hr
  refine ⟨t, J.ps, ?_⟩
  have hs : Sit z0 H (L2.start N vs) H F0 (startE N ds) := by
    have := sit_vals (z := z0) (B := H) (m := N.length - vs.length) (n := 0) r ⟨trivial, fun _ q => (nomatch q)⟩ (fun _ q => (zv_z0 q).elim) e
    unfold L2.start startE
    rw [← r.length]
    exact this
  exact J.de H F0 (L2.start N vs) H F0 _ _ _ hs (Grow.refl e) (hwb ds R (by rw [← r.length]; exact hl) q) fun v H' F' d n L f _ q' => kk v H' F' L d f q'
end
/-! ### xs.index(x) -/
section
variable {z : Zn} {X : Cx} {a b : Expr} {ta tb : TE} {wa wb : WE} {pos p1 : Pos} {k : Nat}
@[simp] def wIndex (wa wb : WE) : WE := fun en P => wa en fun d n => isLst d = true ∧ wb ⟨en.s, n⟩ fun e n' => ∃ (ds : List PyData) (j : Nat) (u : PyData), d = .list ds ∧ okD (.list ds) = true ∧ okD e = true ∧ ds[j]? = some u ∧ u.eqv e = true ∧ (∀ (m : Nat) (u' : PyData), m < j → ds[m]? = some u' → u'.eqv e = false) ∧ P (.int (j : Nat)) n'
theorem je_index (hr : Room k X.A) (ha : JE z X a ta wa) (hb : JE z X b tb wb)
    (hbase : attributeBase a "index" X.env (eval a X.env) = eval a X.env := by rfl)
    (hfew : ((backTo pos (starEach [b] X.env)).all (fun x => !x.1) && (backToKw pos (keywordEach [] X.env)).all (fun x => x.1.isSome)
      && decide ([b].length + ([] : List Keyword).length + (if ([] : List Keyword).isEmpty then 0 else 1) < 30)) = true := by rfl)
    (hline : (p1.endLine == pos.line) = true := by rfl) (hs : starEach [b] X.env = (false, eval b X.env) :: starEach [] X.env := by rfl) (hplain : (backTo pos (starEach [] X.env)).any (·.1) = false := by rfl) :
    JE z X (.Call (.Attribute a "index" p1) [b] [] pos) (tBM X.K "list" (rIndexD X.K) ta (tCons tb tNil)) (wIndex wa wb) where
  pe := pe_bm PySem.F.plainAttrs_list PySem.F.slot_list_index PySem.F.type_list_index (mt_indexD (by have := hr.units; have := hr.un; omega)) ha.pe (pa_cons hb.pe pa_nil hs) hbase hfew hline hs hplain
  de := fun B σ H F en s P Q hw kk => by
    refine ha.de B σ H F en s _ _ hw fun v H1 F1 d n1 g1 s1 r1 q1 => ?_
    obtain ⟨hl, q1⟩ := q1
    cases r1 with
    | @lst a0 xs ds e1 r =>
      refine ⟨.inl ⟨rfl, _, SqL.of (g1.sub _ _ e1)⟩, ?_⟩
      refine hb.de B σ H1 F1 _ (s.grow g1 s1) _ _ q1 fun u H2 F2 d2 n2 g2 s2 r2 q2 => ?_
      obtain ⟨ds', j, z', ed, o1, o2, h1, h2, h3, q⟩ := q2
      cases ed
      have rr : Rp F2 (.ref a0) (.list ds) := .lst (g2.ext _ _ e1) (r.mono g2.ext)
      exact ⟨a0, u, d2, ds, j, z', rfl, rfl, rr.dp g2.sub (okD_flat o1).1, r2.dp g2.sub (okD_flat o2).1, (okD_flat o1).2, (okD_flat o2).2, h1, h2, h3, kk _ H2 F2 _ n2 (g1.trans g2) s2 (.int _) q⟩
    | _ => cases hl
end
end OT
/-! Owned trees, 8: _law_w_twice(e, lambda: .., lambda: ..) in the Deep layer. -/
namespace OT
open PySem PySem.Spec PyProof.Rows L2 DD CL LamX NdefX
open Evl (Ex)
/-- what a closure took: data, or the stream -/
def CapOk (p : Option (Addr × Addr)) (F : Hp) (v : V) : S → Prop
  | .val d => Rp F v d
  | .stm => ∃ st sl, p = some (st, sl) ∧ v = .ref st
  | _ => False
structure Caps (p : Option (Addr × Addr)) (F : Hp) (ws : List V) (ss : List S) : Prop where
  len : ws.length = ss.length
  at_ : ∀ (i : Nat) (v : V) (s : S), ws[i]? = some v → ss[i]? = some s → CapOk p F v s
theorem sit_caps {p : Option (Addr × Addr)} {B F F0 H : Hp} {ws : List V} {ss : List S} {n k : Nat} (c : Caps p F ws ss) (e : Ex F F0) (e0 : Ex F0 H) (s : StmO p n H) (o : ∀ b, Sv p b → F0 b = none) : Sit (zo p) B (ws.map some ++ List.replicate k none) H F0 ⟨ss ++ List.replicate k .no, n⟩ := by
  have slot : ∀ (i : Nat) (t : S), (ss ++ List.replicate k S.no)[i]? = some t → (∃ v, ws[i]? = some v ∧ CapOk p F v t) ∨ (t = .no ∧ ss.length ≤ i ∧ i < ss.length + k) := fun i t h => by
    rcases Nat.lt_or_ge i ss.length with q | q
    · rw [List.getElem?_append_left q] at h
      have hw : i < ws.length := by rw [c.len]; exact q
      exact .inl ⟨ws[i], List.getElem?_eq_getElem hw, c.at_ i _ t (List.getElem?_eq_getElem hw) h⟩
    · rw [List.getElem?_append_right q] at h
      have := (List.getElem?_eq_some_iff.mp h).1
      simp at this
      exact .inr ⟨List.eq_of_mem_replicate (List.mem_of_getElem? h), q, by omega⟩
  refine { sub := e0, stm := ⟨s, fun _ q => (nomatch q)⟩, off := fun b h => o b (zv_zo.mp h), len := by simp [c.len], slot := fun i t h => ?_, sep := fun i j a b l hij h1 h2 o1 o2 => ?_ }
  · rcases slot i t h with ⟨v, hv, hc⟩ | ⟨rfl, h1, h2⟩
    · have hi := (List.getElem?_eq_some_iff.mp hv).1
      refine ⟨some v, by rw [List.getElem?_append_left (by simpa using hi), List.getElem?_map, hv]; rfl, ?_⟩
      cases t with
      | val d => exact ⟨v, rfl, Rp.mono e hc⟩
      | stm => obtain ⟨st, sl, h1, rfl⟩ := hc; exact ⟨st, sl, h1, rfl⟩
      | _ => exact hc.elim
    · exact ⟨none, by rw [List.getElem?_append_right (by simp [c.len]; exact h1), List.getElem?_replicate, if_pos (by rw [List.length_map, c.len]; omega)], trivial⟩
  · rcases slot i a h1 with ⟨v, hv, hc⟩ | ⟨rfl, _, _⟩
    · cases a with
      | own _ => exact hc.elim
      | ownD _ => exact hc.elim
      | _ => exact absurd o1 Bool.false_ne_true
    · exact absurd o1 Bool.false_ne_true
section
variable {X : Cx} {σ : L2.St} {G H1 : Hp} {C : List Addr} {f c' : Addr} {q : Str} {params : Arguments} {body : Expr} {scope : Scope} {N fr : List Str} {js : List Nat} {k m : Nat} {ws : List V} {ss : List S} {Fc : Hp} {p : Option (Addr × Addr)} {due : PyData}
/-- a closure without arguments, its body by a derivation -/
theorem mk_thunkJ (tl : Tells X σ G C) (hn : ∀ c ∈ C, H1 c = none) (hf : H1 f = some (LfO f (mkLam q params body scope X.env.cells c'))) (hc : H1 c' = some (CodeO c' q)) (S0 : NScope N [] fr scope)
    (hbd : ∀ (cl : List (Str × Addr)) (pm ctv : Value) (us : List Value), us.length = ([] : List Str).length → bindArgs (PySem.W.kla_fn "<lambda>" q params body scope cl pm (.ref c') ctv) ⟨us, []⟩ = pure (([] : List Str).zip us))
    (hfr : ∀ y ∈ fr, (y, NameKind.free) ∈ scope.names) (hkin : ∀ y ∈ scope.names, y.2 = .free → X.env.scope.names.lookup y.1 = some .cell ∨ X.env.scope.names.lookup y.1 = some .free) (hjs : js.map (fun j => X.N[j]?) = fr.map some) (hσ : js.map (fun j => σ[j]?) = ws.map fun v => some (some v)) (cp : Caps p Fc ws ss)
    (hbody : ∀ (A : Around) (outer : List Env) (s : Shared) (H : Hp) (E : XK), Room k (A.deeper (envF (mkLam q params body scope X.env.cells c').nf f s.heap.objs.size)) →
      ∃ t we, JO (zo p) (ncx (L2.CX X.prog X.w) X.prog X.w X.K X.mg X.base N (mkLam q params body scope X.env.cells c').nf f A outer s H E) body t we ∧ ∀ n, n ≤ 1000000000000 → we ⟨ss ++ List.replicate (N.length - ss.length) .no, n⟩ fun d n' => d = due ∧ n' ≤ n + m) :
    ThunkF p m X.prog X.w X.K X.mg X.base (k + 1) 0 (dOfV f c' H1 G (fun _ => none) C) C Fc f (fun _ _ R => R due) ∧ Ex (dOfV f c' H1 G (fun _ => none) C) (put H1 G C) ∧ ∀ F, Ex F H1 → Dj C F :=
  mk_thunkF (ps := []) (ob := fun _ _ R => R due) tl hn hf hc S0 hbd hfr hkin hjs hσ (fun _ _ q => nomatch q) (fun _ _ q => nomatch q) fun A outer s H E hr tk => by
    obtain ⟨t, we, J, hw⟩ := hbody A outer s H E hr
    refine ⟨t, J.pe, fun vs ds R F0 Q hl hob ra eDa eFc eF0 ⟨n, hst, hn, out⟩ hoff => ?_⟩
    have hv : vs = [] := List.length_eq_zero_iff.mp hl
    subst hv
    have hs : Sit (zo p) H (startF N [] (ws.map some)) H F0 ⟨ss ++ List.replicate (N.length - ss.length) .no, n⟩ := by
      have := sit_caps (B := H) (n := n) (k := N.length - ss.length) cp eFc eF0 hst hoff
      unfold startF
      simpa [cp.len] using this
    refine J.de _ _ _ _ _ hs _ _ (hw n hn) fun v H' F' d n' L fx st q => ?_
    exact out v H' F' L d fx (stm_mono st.s q.2) (q.1 ▸ hob)
end
section
variable {X : Cx} {z : Zn} {PT : Addr} {k m : Nat} {e : Expr} {te : TE} {we : WE} {pa1 pa2 : Arguments} {bo1 bo2 : Expr} {sc1 sc2 : Scope} {js1 js2 : List Nat} {w1 w2 : List S → PyData → Prop} {ok : PyData → Prop}
/-- what a lambda of the frame is worth -/
def LamOk (X : Cx) (p : Option (Addr × Addr)) (k m : Nat) (params : Arguments) (body : Expr) (scope : Scope) (js : List Nat) (w1 : List S → PyData → Prop) : Prop := ∀ (σ : L2.St) (G H1 : Hp) (C : List Addr) (f c' : Addr) (ws : List V) (ss : List S) (Fc : Hp) (due : PyData), Tells X σ G C → (∀ c ∈ C, H1 c = none) →
  H1 f = some (LfO f (mkLam (X.env.qual ++ "<lambda>") params body scope X.env.cells c')) → H1 c' = some (CodeO c' (X.env.qual ++ "<lambda>")) → js.map (fun j => σ[j]?) = ws.map (fun v => some (some v)) → Caps p Fc ws ss → w1 ss due →
  ∃ D, ThunkF p m X.prog X.w X.K X.mg X.base k 0 D C Fc f (fun _ _ R => R due) ∧ Ex D (put H1 G C) ∧ ∀ F, Ex F H1 → Dj C F
def capS : S → Bool
  | .val _ => true
  | .stm => true
  | _ => false
def wTwice (m : Nat) (ok : PyData → Prop) (we : WE) (js1 : List Nat) (w1 : List S → PyData → Prop) (js2 : List Nat) (w2 : List S → PyData → Prop) : WE := fun en P => we en fun due n => ok due ∧ n + 3 * m ≤ 1000000000000 ∧ (∀ j ∈ js1 ++ js2, ∃ s, en.s[j]? = some s ∧ capS s = true) ∧
  w1 (js1.map fun j => en.s.getD j .no) due ∧ w2 (js2.map fun j => en.s.getD j .no) due ∧ P (.bool true) (n + 3 * m)
theorem caps_of {B H F : Hp} {σ : L2.St} {en : En} {js : List Nat} (s : Sit z B σ H F en) (h : ∀ j ∈ js, ∃ t, en.s[j]? = some t ∧ capS t = true) : ∃ ws : List V, js.map (fun j => σ[j]?) = ws.map (fun v => some (some v)) ∧ Caps z.st F ws (js.map fun j => en.s.getD j .no) := by
  induction js with
  | nil => exact ⟨[], rfl, rfl, fun i v t h => by simp at h⟩
  | cons j js ih =>
    obtain ⟨ws, e, c⟩ := ih fun i hi => h i (by simp [hi])
    obtain ⟨t, h1, h2⟩ := h j (by simp)
    obtain ⟨o, h3, h4⟩ := s.slot j t h1
    have hd : en.s.getD j .no = t := by rw [List.getD_eq_getElem?_getD, h1]; rfl
    obtain ⟨v, rfl, hv⟩ : ∃ v, o = some v ∧ CapOk z.st F v t := by
      cases t with
      | val d => obtain ⟨v, rfl, r⟩ := h4; exact ⟨v, rfl, r⟩
      | stm => obtain ⟨a, b, q, rfl⟩ := h4; exact ⟨_, rfl, a, b, q, rfl⟩
      | _ => cases h2
    refine ⟨v :: ws, by simp [h3, e], by simp [c.len], fun i u x hi hx => ?_⟩
    cases i with
    | zero =>
      simp [hd] at hi hx
      rw [List.getD_eq_getElem?_getD] at hd
      subst hi
      rw [hd] at hx
      subst hx
      exact hv
    | succ i => exact c.at_ i u x (by simpa using hi) (by simpa using hx)
theorem den_twice (h : Den z te we) (l1 : LamOk X z.st k m pa1 bo1 sc1 js1 w1) (l2 : LamOk X z.st k m pa2 bo2 sc2 js2 w2) (hm : ∃ q, (PT, q) ∈ z.T) :
    Den z (tCallT X (spTwice X.prog X.w X.K X.mg X.base k ok) (tCons te (tCons (tLam1 z.T PT (mkLam (X.env.qual ++ "<lambda>") pa1 bo1 sc1 X.env.cells)) (tCons (tLam1 z.T PT (mkLam (X.env.qual ++ "<lambda>") pa2 bo2 sc2 X.env.cells)) tNil)))) (wTwice m ok we js1 w1 js2 w2) := by
  intro B σ H F en s P Q hw kk
  refine h B σ H F en s _ _ hw fun v0 H1 F1 due n1 g1 s1 r1 q1 => ⟨s1.t, fun f1 c1 H2 a1 a2 a3 a4 a5 a6 => ⟨a3, fun f2 c2 H3 b1 b2 b3 b4 b5 b6 => ?_⟩⟩
  obtain ⟨tw, hn, hc, hw1, hw2, hP⟩ := q1
  intro G C tl hno
  have sit1 := s.grow g1 s1
  have tb : ∀ {H' : Hp}, LamX.Tabs z.T H' → ∀ b u, H' b = some u → (∀ ps, u ≠ .tbl ps) → b ≠ PT := fun {H'} t b u e n q => by
    obtain ⟨q0, hq⟩ := hm
    obtain ⟨ps, e', _⟩ := t _ hq
    have e' : H' PT = some (.tbl ps) := e'
    rw [q, e'] at e
    exact n ps (Option.some.inj e).symm
  have k12 : ∀ b u, H1 b = some u → (∀ ps, u ≠ .tbl ps) → H3 b = some u := fun b u e n => by
    have e2 := a1 b u (tb s1.t b u e n) e
    exact b1 b u (tb a3 b u e2 n) e2
  have offT : ∀ q ∈ z.T, F1 q.1 = none := fun q hq => sit1.off q.1 (.inr ⟨q.2, hq⟩)
  have S1 : LamStep z.T PT H1 H2 f1 (mkLam (X.env.qual ++ "<lambda>") pa1 bo1 sc1 X.env.cells c1) := ⟨a1, a2, a3, a4, a5, a6⟩
  have S2 : LamStep z.T PT H2 H3 f2 (mkLam (X.env.qual ++ "<lambda>") pa2 bo2 sc2 X.env.cells c2) := ⟨b1, b2, b3, b4, b5, b6⟩
  have gA := S1.grow hm offT g1.sub
  have gB := S2.grow hm offT gA.sub
  have zz : ∀ c, Zv (zT z.T) c → Zv z c := fun c h => .inr (zv_zT.mp h)
  have g13 : Grow z F1 H1 F1 H3 := (gA.trans gB).widen zz
  have f1H : H3 f1 = some (LfO f1 (mkLam (X.env.qual ++ "<lambda>") pa1 bo1 sc1 X.env.cells c1)) := b1 _ _ (tb a3 _ _ a5 fun _ => lfo_tbl) a5
  have c1H : H3 c1 = some (CodeO c1 (X.env.qual ++ "<lambda>")) := b1 _ _ (tb a3 _ _ a6 fun _ => codeO_ne _) a6
  obtain ⟨ws1, e1, cp1⟩ := caps_of (js := js1) sit1 fun j hj => hc j (by simp [hj])
  obtain ⟨ws2, e2, cp2⟩ := caps_of (js := js2) sit1 fun j hj => hc j (by simp [hj])
  obtain ⟨D1, T1, d1, j1⟩ := l1 σ G H3 C f1 c1 ws1 _ F1 due tl hno f1H c1H e1 cp1 hw1
  obtain ⟨D2, T2, d2, j2⟩ := l2 σ G H3 C f2 c2 ws2 _ F1 due tl hno b5 b6 e2 cp2 hw2
  have hGC : ∀ x ∈ C, ∃ o, G x = some (CellX x o) := fun x hx => by
    obtain ⟨o, u, e, _⟩ := tl.all x hx
    exact ⟨o, e⟩
  have sP : Ex F1 (put H3 G C) := fun b u e => by
    have e1 := g13.sub b u e
    have : b ∉ C := fun q => by rw [hno b q] at e1; cases e1
    rw [put_out this]; exact e1
  have st3 : StmO z.st n1 H3 := stm_keep s1.s fun b xs _ e => k12 b _ e fun _ q => nomatch q
  have stP : StmO z.st n1 (put H3 G C) := stm_keep st3 fun b xs _ e => by
    have : b ∉ C := fun q => by rw [hno b q] at e; cases e
    rw [put_out this]; exact e
  have offS : ∀ b, Sv z.st b → F1 b = none := fun b hb => sit1.off b (.inl hb)
  have hzC : ∀ c ∈ C, ¬ Zv (zo z.st) c := fun c hc hz => by
    obtain ⟨xs, q⟩ := stP.lst (zv_zo.mp hz)
    obtain ⟨o, e⟩ := hGC c hc
    rw [put_in hc, e] at q
    unfold CellX at q; cases q
  refine ⟨v0, f1, f2, F1, due, D1, C, F1, D2, C, F1, z.st, m, n1, rfl, sP, r1, tw, T1, T2, d1, d2, j1 F1 g13.sub, j2 F1 g13.sub, Evl.Ex.refl _, Evl.Ex.refl _, stP, hn, offS, fun H' gr st' => ?_⟩
  obtain ⟨gO, kc⟩ := grow_off gr hno hGC (fun c hc => none_of_sub g13.sub (hno c hc)) hzC
  refine ⟨kc, ?_⟩
  have stO : Stm (zo z.st) (n1 + 3 * m) (off H' C) := ⟨stm_keep st' fun b xs _ e => by
    have : b ∉ C := fun q => by
      obtain ⟨o, e'⟩ := hGC b q
      rw [kc b q, e'] at e
      unfold CellX at e; cases e
    rw [off_out this]; exact e, fun _ q => nomatch q⟩
  have stZ : Stm z (n1 + 3 * m) (off H' C) := Stm.widen (z := z) (n := n1) ⟨st3, b3⟩ gO stO rfl rfl
  exact kk _ _ F1 _ _ ((g1.trans g13).trans (gO.widen fun c h => .inl (zv_zo.mp h))) stZ (.bl true) hP
end
end OT
/-! Owned trees, 9: defs with the stream and lambdas; _law_w_twice as an expression. -/
namespace OT
open PySem PySem.Spec PyProof.Rows L2 DD CL LamX NdefX
open Evl (Ex)
/-- the zone of the stream and of the tables -/
def zq (p : Addr × Addr) (T : List (Addr × Str)) : Zn := ⟨some p, T, fun _ _ _ => False⟩
def spZT (T : List (Addr × Str)) (np : Nat) (sp : ZSp) : Sp := fun vs H Q _ => vs.length = np + 1 ∧ ∃ st sl us F ds n P, vs = .ref st :: us ∧ Ex F H ∧ (∀ b, Zv (zq (st, sl) T) b → F b = none) ∧ Stm (zq (st, sl) T) n H ∧ RpA F us ds ∧ sp ds n P ∧
  ∀ v H' F' d n', Grow (zq (st, sl) T) F H F' H' → Stm (zq (st, sl) T) n' H' → Rp F' v d → P d n' → Q v H'
section
variable {z : Zn} {X : Cx} {e : Expr} {es : List Expr} {te : TE} {we : WE} {ta : TA} {wa : WA} {pos p p0 pos1 pos2 : Pos} {j k kk m np : Nat} {x y : Str} {sp : ZSp} {T : List (Addr × Str)} {PT : Addr} {pa1 pa2 : Arguments} {bo1 bo2 : Expr} {sc1 sc2 : Scope} {js1 js2 : List Nat} {w1 w2 : List S → PyData → Prop} {ok : PyData → Prop}
theorem den_callZT {i : Nat} (h : DenA z ta wa) (hT : z.T = T) (hW : z.W = fun _ _ _ => False) : Den z (tCall (spZT T np sp) [] E0 (tCons (tVar i) ta)) (wCallZ i np sp wa) := fun B σ H F en s P Q hw kk => by
  obtain ⟨h1, h2⟩ := hw
  obtain ⟨o, e1, st, sl, hz, rfl⟩ := s.slot i _ h1
  have ez : z = zq (st, sl) T := by
    cases z
    cases hT
    cases hz
    cases hW
    rfl
  subst ez
  refine ⟨.ref st, e1, ?_⟩
  refine h B σ H F en s _ _ h2 fun vs H1 F1 ds n1 g1 s1 r1 q1 => ?_
  show spZT T np sp ((V.ref st :: vs) ++ []) H1 Q E0
  rw [List.append_nil]
  have o1 : ∀ b, Zv (zq (st, sl) T) b → F1 b = none := fun b hb => s1.off g1 hb (s.stm.there hb) (s.off b hb)
  exact ⟨by rw [List.length_cons, r1.length, q1.1], st, sl, vs, F1, ds, n1, _, rfl, g1.sub, o1, s1, r1, q1.2, fun v H2 F2 d n2 g2 s2 r2 q2 => kk v H2 F2 d n2 (g1.trans g2) s2 r2 q2⟩
theorem je_zT (i : Nat) (D : DefV X.prog X.w X.K X.mg X.base j x (spZT T np sp)) (hr : Room k X.A) (ha : JA z X es ta wa) (hk : j ≤ k := by first | decide | omega) (hT : z.T = T := by rfl) (hW : z.W = fun _ _ _ => False := by rfl) (hg : Gl X x := by rfl)
    (hN : X.N[i]? = some y := by rfl) (hv : Vis X.env.scope y := by first | exact Or.inl rfl | exact Or.inr (Or.inl rfl) | exact Or.inr (Or.inr rfl)) (hd : (y == ("__debug__" : Str)) = false := by decide) (hcd : (y == ("__classdict__" : Str)) = false := by decide)
    (hdb : (x == ("__debug__" : Str)) = false := by decide) (he : starEach (.Name y p0 :: es) X.env = (false, eval (.Name y p0) X.env) :: starEach es X.env := by rfl) (hpl : (backTo pos (starEach es X.env)).any (·.1) = false := by rfl) :
    JE z X (.Call (.Name x p) (.Name y p0 :: es) [] pos) (tCall (spZT T np sp) [] E0 (tCons (tVar i) ta)) (wCallZ i np sp wa) := ⟨pe_v D hr (pa_cons (pe_var hN hv hd hcd) ha.pa he) hk hg hdb he hpl, den_callZT ha.de hT hW⟩
theorem je_twice (D : DefV X.prog X.w X.K X.mg X.base j x (spTwice X.prog X.w X.K X.mg X.base k ok)) (hr : Room kk X.A) (L : LTab X T PT) (h : JE z X e te we) (l1 : LamOk X z.st k m pa1 bo1 sc1 js1 w1) (l2 : LamOk X z.st k m pa2 bo2 sc2 js2 w2)
    (hf1 : ∀ y ∈ sc1.names, y.2 = .free → X.env.scope.names.lookup y.1 = some .cell ∨ X.env.scope.names.lookup y.1 = some .free) (hf2 : ∀ y ∈ sc2.names, y.2 = .free → X.env.scope.names.lookup y.1 = some .cell ∨ X.env.scope.names.lookup y.1 = some .free)
    (hT : z.T = T := by rfl) (hfn : ∀ y, X.fn y = true := by intro _; rfl) (hk : j ≤ kk := by first | decide | omega) (hg : Gl X x := by rfl) (hd1 : defaultsOf pa1 X.env = ([], []) := by rfl) (hd2 : defaultsOf pa2 X.env = ([], []) := by rfl)
    (hdb : (x == ("__debug__" : Str)) = false := by decide)
    (hs0 : starEach [.Lambda pa2 bo2 sc2 pos2] X.env = (false, eval (.Lambda pa2 bo2 sc2 pos2) X.env) :: starEach [] X.env := by rfl) (hs1 : starEach [.Lambda pa1 bo1 sc1 pos1, .Lambda pa2 bo2 sc2 pos2] X.env = (false, eval (.Lambda pa1 bo1 sc1 pos1) X.env) :: starEach [.Lambda pa2 bo2 sc2 pos2] X.env := by rfl)
    (hs2 : starEach [e, .Lambda pa1 bo1 sc1 pos1, .Lambda pa2 bo2 sc2 pos2] X.env = (false, eval e X.env) :: starEach [.Lambda pa1 bo1 sc1 pos1, .Lambda pa2 bo2 sc2 pos2] X.env := by rfl) (hpl : (backTo pos (starEach [.Lambda pa1 bo1 sc1 pos1, .Lambda pa2 bo2 sc2 pos2] X.env)).any (·.1) = false := by rfl) :
    JE z X (.Call (.Name x p) [e, .Lambda pa1 bo1 sc1 pos1, .Lambda pa2 bo2 sc2 pos2] [] pos) (tCallT X (spTwice X.prog X.w X.K X.mg X.base k ok) (tCons te (tCons (tLam1 T PT (mkLam (X.env.qual ++ "<lambda>") pa1 bo1 sc1 X.env.cells)) (tCons (tLam1 T PT (mkLam (X.env.qual ++ "<lambda>") pa2 bo2 sc2 X.env.cells)) tNil)))) (wTwice m ok we js1 w1 js2 w2) := by
  subst hT
  obtain ⟨f, fd, ps, F, hm, hkp, hb⟩ := D.ex
  exact ⟨pe_callT F (hr.mono hk) hfn hg hm hkp hb (pa_cons h.pe (pa_cons (pe_lam L hf1 hd1) (pa_cons (pe_lam L hf2 hd2) pa_nil hs0) hs1) hs2) hdb hs2 hpl, den_twice h.de l1 l2 ⟨_, L.hm⟩⟩
/-- a lambda of the frame by its body -/
theorem lam_ok {pz : Option (Addr × Addr)} {params : Arguments} {body : Expr} {scope : Scope} {N fr : List Str} {js : List Nat} (w1 : List S → PyData → Prop) (S0 : NScope N [] fr scope)
    (hbd : ∀ (cl : List (Str × Addr)) (pm ctv : Value) (c' : Addr) (us : List Value), us.length = ([] : List Str).length → bindArgs (PySem.W.kla_fn "<lambda>" (X.env.qual ++ "<lambda>") params body scope cl pm (.ref c') ctv) ⟨us, []⟩ = pure (([] : List Str).zip us))
    (hfr : ∀ y ∈ fr, (y, NameKind.free) ∈ scope.names) (hkin : ∀ y ∈ scope.names, y.2 = .free → X.env.scope.names.lookup y.1 = some .cell ∨ X.env.scope.names.lookup y.1 = some .free) (hjs : js.map (fun j => X.N[j]?) = fr.map some)
    (hbody : ∀ (f c' : Addr) (A : Around) (outer : List Env) (s : Shared) (H : Hp) (E : XK), Room k (A.deeper (envF (mkLam (X.env.qual ++ "<lambda>") params body scope X.env.cells c').nf f s.heap.objs.size)) →
      ∃ t we, JO (zo pz) (ncx (L2.CX X.prog X.w) X.prog X.w X.K X.mg X.base N (mkLam (X.env.qual ++ "<lambda>") params body scope X.env.cells c').nf f A outer s H E) body t we ∧ ∀ ss due, ss.length = fr.length → w1 ss due → ∀ n, n ≤ 1000000000000 → we ⟨ss ++ List.replicate (N.length - ss.length) .no, n⟩ fun d n' => d = due ∧ n' ≤ n + m) :
    LamOk X pz (k + 1) m params body scope js w1 := fun σ G H1 C f c' ws ss Fc due tl hno hf hc hσ cp hw => by
  have hl : ss.length = fr.length := by
    have e1 := congrArg List.length hjs
    have e2 := congrArg List.length hσ
    simp at e1 e2
    rw [← cp.len, ← e2, e1]
  exact ⟨_, mk_thunkJ (due := due) (m := m) tl hno hf hc S0 (fun cl pm ctv us hl => hbd cl pm ctv c' us hl) hfr hkin hjs hσ cp fun A outer s H E hr => by
    obtain ⟨t, we, J, h⟩ := hbody f c' A outer s H E hr
    exact ⟨t, we, J, fun n hn => h ss due hl hw n hn⟩⟩
end
section
variable {P : Program} {w : World} {K : PySem.W.Frag} {mg : Str → Option Value} {base : Heap} {k np : Nat} {x : Str} {st : Stmt} {ps N : List Str} {sp : ZSp} {T : List (Addr × Str)} {f c : Addr} {fd : FuncData}
/-- THE RULE for a def with the stream first, and lambdas -/
theorem fn_zT (F : Fun K x x st f fd) (hc : fnCode K f = some (.ref c)) (S : FnScope N ps (defScope st)) (hnp : ps.length = np + 1)
    (hbody : ∀ (z : Addr × Addr) (A : Around) (outer : List Env) (s : Shared) (H : Hp) (E : XK), Room k (A.deeper (envOfC x (defScope st) s.heap.objs.size f (.ref c))) →
      ∃ t wb, JSs (zq z T) (cxOf CX0 P w K mg base N x (defScope st) f (.ref c) A outer s H E).nox (defBody st) t wb ∧ ∀ ds n Q, ds.length = np → sp ds n Q → wb { nx := fun en => Q .none en.n, rt := Q } (startZ N ds n)) :
    FnOk P w K mg base CX0 (k + 1) f fd ps (spZT T np sp) := by
  refine fn_okC F S (fun vs H Q E h => h.1.trans hnp.symm) (fun cdv A outer s H vs Q E hcd hr h => ?_)
  rw [hc] at hcd
  cases hcd
  obtain ⟨hl, st', sl, us, F0, ds, n, R, rfl, e, off, hS, r, q, kk⟩ := h
  obtain ⟨t, wb, J, hwb⟩ := hbody (st', sl) A outer s H E hr
  refine ⟨t, J.ps, ?_⟩
  have hs : Sit (zq (st', sl) T) H (L2.start N (.ref st' :: us)) H F0 (startZ N ds n) := by
    have := sit_stm (z := zq (st', sl) T) rfl (sit_vals (B := H) (m := N.length - 1 - us.length) (n := n) r hS off e)
    have e1 : N.length - (us.length + 1) = N.length - 1 - us.length := by omega
    unfold L2.start startZ
    rw [List.length_cons, e1, ← r.length]
    exact this
  have hl' : ds.length = np := by
    rw [← r.length]
    simpa using hl
  exact J.de H F0 _ H F0 _ _ _ hs (Grow.refl e) (hwb ds n R hl' q) ⟨fun σ' H' F' en' s' g' q' => kk .non H' F' .none en'.n g' s'.stm .non q', fun v H' F' d n g' st' r' q' => kk v H' F' d n g' st' r' q', fun _ _ _ _ _ _ q => q.elim, fun _ _ _ _ _ _ q => q.elim, fun _ _ _ _ _ _ _ _ _ _ q => q.elim⟩
end
/-! ### sum([..]) of whole numbers -/
@[simp] def fSum : PyData → (PyData → Prop) → Prop := fun d P => ∃ ns : List Int, d = .list (ns.map PyData.int) ∧ P (.int ns.sum)
theorem den_sum {z : Zn} : DenB z (kC rSum) fSum := by
  intro H F x d P Q s r h k K
  obtain ⟨ns, rfl, q⟩ := h
  cases r with
  | lst e r =>
    have e2 := r.ofInts
    subst e2
    exact ⟨_, ns, rfl, SqL.of (s _ _ e), k _ H F _ (Grow.stay s) (.int _) q⟩
section
variable {z : Zn} {X : Cx} {e : Expr} {t : TE} {wa : WE} {p pos : Pos}
theorem je_sum (hg : Gl X "sum") (hm : X.mg "sum" = none) (h : JE z X e t wa) (hc : X.calm = true := by rfl) (he : starEach [e] X.env = (false, eval e X.env) :: starEach [] X.env := by rfl) (hpl : (backTo pos (starEach [] X.env)).any (·.1) = false := by rfl) :
    JE z X (.Call (.Name "sum" p) [e] [] pos) (tCB (kC rSum) (tCons t tNil)) (wB1 fSum wa) :=
  je_b1 (p := p) (pos := pos) (x := "sum") (kC_ok (cr_sum hc)) den_sum hg hm (by decide +kernel) h (by decide) (by decide) he hpl
end
end OT
/-! in, not in a tuple of data. -/
namespace OT
open PySem PySem.Spec PyProof.Rows L2 DD
open Evl (Ex)
def rInT (K : PySem.W.Frag) : R2 := fun x y H Q => ∃ d ds, Dp K H x d ∧ Dp K H y (.tuple ds) ∧ SeqAt.shaped d = true ∧ SeqAt.shaped (.tuple ds) = true ∧ Q (.bl (ds.any fun z => PyData.eqv z d)) H
def rNotInT (K : PySem.W.Frag) : R2 := fun x y H Q => ∃ d ds, Dp K H x d ∧ Dp K H y (.tuple ds) ∧ SeqAt.shaped d = true ∧ SeqAt.shaped (.tuple ds) = true ∧ Q (.bl (!ds.any fun z => PyData.eqv z d)) H
section
variable {X : Cx} {z : Zn} {k : Nat}
theorem op_inT (hu : X.A.units + 65 < cLine) : OpR X (compareOp .In) (rInT X.K) := by
  intro pins s σ H x y v u Q I rx ry h
  obtain ⟨d, ds, hd, he, sd, se, q⟩ := h
  obtain ⟨as, r1⟩ := Dp.reads I d x v hd rx
  obtain ⟨bs, r2⟩ := Dp.reads I (.tuple ds) y u he ry
  exact SeqAt.in_tuple_reads r2 r1 (SeqAt.canLay_of_shaped se) (SeqAt.canLay_of_shaped sd) (room_in_shaped sd hu) ⟨.bl _, H, I, rfl, q⟩
theorem op_notInT (hu : X.A.units + 65 < cLine) : OpR X (compareOp .NotIn) (rNotInT X.K) := by
  intro pins s σ H x y v u Q I rx ry h
  obtain ⟨d, ds, hd, he, sd, se, q⟩ := h
  obtain ⟨as, r1⟩ := Dp.reads I d x v hd rx
  obtain ⟨bs, r2⟩ := Dp.reads I (.tuple ds) y u he ry
  exact SeqAt.notIn_tuple_reads r2 r1 (SeqAt.canLay_of_shaped se) (SeqAt.canLay_of_shaped sd) (room_in_shaped sd hu) ⟨.bl _, H, I, rfl, q⟩
@[simp] def fInT : PyData → PyData → (PyData → Prop) → Prop := fun d e P => ∃ ds, e = .tuple ds ∧ okD d = true ∧ okD (.tuple ds) = true ∧ P (.bool (ds.any fun z => PyData.eqv z d))
@[simp] def fNotInT : PyData → PyData → (PyData → Prop) → Prop := fun d e P => ∃ ds, e = .tuple ds ∧ okD d = true ∧ okD (.tuple ds) = true ∧ P (.bool (!ds.any fun z => PyData.eqv z d))
theorem den_inT : DenR z (kR rInT) fInT := by
  intro H F x y d e P Q s rx ry hf k K
  obtain ⟨ds, rfl, h1, h2, q⟩ := hf
  exact ⟨d, ds, rx.dp s (okD_flat h1).1, ry.dp s (okD_flat h2).1, (okD_flat h1).2, (okD_flat h2).2, k _ H F _ (Grow.stay s) (.bl _) q⟩
theorem den_notInT : DenR z (kR rNotInT) fNotInT := by
  intro H F x y d e P Q s rx ry hf k K
  obtain ⟨ds, rfl, h1, h2, q⟩ := hf
  exact ⟨d, ds, rx.dp s (okD_flat h1).1, ry.dp s (okD_flat h2).1, (okD_flat h1).2, (okD_flat h2).2, k _ H F _ (Grow.stay s) (.bl _) q⟩
theorem c_inT (hr : Room k X.A) : JC z X .In (kR rInT) fInT := ⟨kR_ok (op_inT (units65 hr)), den_inT⟩
theorem c_notInT (hr : Room k X.A) : JC z X .NotIn (kR rNotInT) fNotInT := ⟨kR_ok (op_notInT (units65 hr)), den_notInT⟩
end
end OT
/-! Owned trees, 11: met(lambda) of an ask that raises, as an expression. -/
namespace OT
open PySem PySem.Spec PyProof.Rows L2 DD CL LamX NdefX
open Evl (Ex)
/-- the promise of «try: ask() / except C as e: return (word, e.field) .. / return told, None», of asks that raise: Cs tells class, word, field -/
def spMetX (P : Program) (w : World) (K : PySem.W.Frag) (mg : Str → Option Value) (base : Heap) (k : Nat) (Cs : List (Addr × Str × Str)) : Sp := fun vs H Q _ => ∃ f F b RX, vs = [f] ∧ ClosAt P w K mg base k H F f b ∧ Ex F H ∧ b (fun _ => False) RX ∧
  (∀ cls fld v d H' F', Grow z0 F H F' H' → Rp F' v d → RX cls fld v d → ∃ C wd, (C, wd, fld) ∈ Cs ∧ cls = .ref C ∧ ∀ t, H' t = none → Q (.ref t) (L2.upd H' t (.tup [.str wd, v])))
/-- what a lambda of the frame that raises is worth: w1 tells, of what it has caught, class, field and what the error has -/
def LamR (X : Cx) (k : Nat) (params : Arguments) (body : Expr) (scope : Scope) (js : List Nat) (w1 : List PyData → Addr → Str → PyData → Prop) : Prop := ∀ (σ : L2.St) (G H1 : Hp) (C : List Addr) (f c' : Addr) (ws : List V) (es : List PyData) (Fc : Hp) (Ce : Addr) (fld : Str) (d : PyData), Tells X σ G C → (∀ c ∈ C, H1 c = none) →
  H1 f = some (LfO f (mkLam (X.env.qual ++ "<lambda>") params body scope X.env.cells c')) → H1 c' = some (CodeO c' (X.env.qual ++ "<lambda>")) → js.map (fun j => σ[j]?) = ws.map (fun v => some (some v)) → RpA Fc ws es → w1 es Ce fld d →
  ∃ D, Thunk X.prog X.w X.K X.mg X.base k 0 D C Fc f (fun _ _ R RX => ∀ v, RX (.ref Ce) fld v d) ∧ Ex D (put H1 G C) ∧ ∀ F, Ex F H1 → Dj C F
def wMet (Cs : List (Addr × Str × Str)) (js : List Nat) (w1 : List PyData → Addr → Str → PyData → Prop) : WE := fun en P => ∃ es Ce wd fld d, js.map (fun j => en.s[j]?) = es.map (fun e => some (S.val e)) ∧ (Ce, wd, fld) ∈ Cs ∧ w1 es Ce fld d ∧ P (.tuple [.str wd, d]) en.n
section
variable {X : Cx} {z : Zn} {PT : Addr} {k m : Nat} {pa1 : Arguments} {bo1 : Expr} {sc1 : Scope} {js1 : List Nat} {w1 : List PyData → Addr → Str → PyData → Prop} {Cs : List (Addr × Str × Str)}
theorem datas_of {B H F : Hp} {σ : L2.St} {en : En} : ∀ {js : List Nat} {es : List PyData}, Sit z B σ H F en → js.map (fun j => en.s[j]?) = es.map (fun e => some (S.val e)) → ∃ ws : List V, js.map (fun j => σ[j]?) = ws.map (fun v => some (some v)) ∧ RpA F ws es
  | [], [], s, h => ⟨[], rfl, .nil⟩
  | [], _ :: _, s, h => by simp at h
  | _ :: _, [], s, h => by simp at h
  | j :: js, e :: es, s, h => by
    simp only [List.map_cons, List.cons.injEq] at h
    obtain ⟨ws, h1, h2⟩ := datas_of (js := js) (es := es) s h.2
    obtain ⟨o, h3, h4⟩ := s.slot j _ h.1
    obtain ⟨v, rfl, r⟩ := h4
    exact ⟨v :: ws, by rw [List.map_cons, List.map_cons, h1, h3], .cons r h2⟩
theorem den_met (l1 : LamR X k pa1 bo1 sc1 js1 w1) (hm : ∃ q, (PT, q) ∈ z.T) :
    Den z (tCallT X (spMetX X.prog X.w X.K X.mg X.base k Cs) (tCons (tLam1 z.T PT (mkLam (X.env.qual ++ "<lambda>") pa1 bo1 sc1 X.env.cells)) tNil)) (wMet Cs js1 w1) := by
  intro B σ H F en s P Q hw kk
  obtain ⟨es, Ce, wd, fld, d, he, hin, hw1, hP⟩ := hw
  refine ⟨s.stm.t, fun f1 c1 H1 a1 a2 a3 a4 a5 a6 => ?_⟩
  intro G C tl hno
  have tb : ∀ {H' : Hp}, LamX.Tabs z.T H' → ∀ b u, H' b = some u → (∀ ps, u ≠ .tbl ps) → b ≠ PT := fun {H'} t b u e n q => by
    obtain ⟨q0, hq⟩ := hm
    obtain ⟨ps, e', _⟩ := t _ hq
    have e' : H' PT = some (.tbl ps) := e'
    rw [q, e'] at e
    exact n ps (Option.some.inj e).symm
  have offT : ∀ q ∈ z.T, F q.1 = none := fun q hq => s.off q.1 (.inr ⟨q.2, hq⟩)
  have S1 : LamStep z.T PT H H1 f1 (mkLam (X.env.qual ++ "<lambda>") pa1 bo1 sc1 X.env.cells c1) := ⟨a1, a2, a3, a4, a5, a6⟩
  have gA := S1.grow hm offT s.sub
  have zz : ∀ c, Zv (zT z.T) c → Zv z c := fun c h => .inr (zv_zT.mp h)
  obtain ⟨ws1, e1, ra⟩ := datas_of s he
  obtain ⟨D1, T1, d1, j1⟩ := l1 σ G H1 C f1 c1 ws1 es F Ce fld d tl hno a5 a6 e1 ra hw1
  have hGC : ∀ x ∈ C, ∃ o, G x = some (CellX x o) := fun x hx => by
    obtain ⟨o, u, e, _⟩ := tl.all x hx
    exact ⟨o, e⟩
  have sP : Ex F (put H1 G C) := fun b u e => by
    have e1 := gA.sub b u e
    have : b ∉ C := fun q => by rw [hno b q] at e1; cases e1
    rw [put_out this]; exact e1
  refine ⟨.ref f1, F, fun R RX => ∀ v, RX (.ref Ce) fld v d, fun cls fl v d' => cls = .ref Ce ∧ fl = fld ∧ d' = d, rfl, ⟨f1, D1, C, F, rfl, T1, d1, j1 F gA.sub, Evl.Ex.refl _⟩, sP, fun v => ⟨rfl, rfl, rfl⟩, fun cls fl v d' H' F' g r q => ?_⟩
  obtain ⟨rfl, rfl, rfl⟩ := q
  refine ⟨Ce, wd, hin, rfl, fun t htn => ?_⟩
  have hf : F' t = none := none_of_sub g.sub htn
  obtain ⟨g2, kc⟩ := grow_off (g.trans (Grow.laid g.sub htn (o := .tup [.str wd, v]))) hno hGC (fun c hc => none_of_sub gA.sub (hno c hc)) fun _ _ => zv_z0
  refine ⟨kc, ?_⟩
  have stZ : Stm z en.n (off (L2.upd H' t (.tup [.str wd, v])) C) := ⟨stm_keep s.stm.s fun b xs _ e => g2.keep b _ zv_z0 (a1 b _ (tb s.stm.t b _ e fun _ q => nomatch q) e), a3.ext fun b u e => g2.keep b u zv_z0 e⟩
  exact kk _ _ _ _ _ ((gA.widen zz).trans g2.weak) stZ (.tup upd_same (.cons (.str wd) (.one (r.mono (ex_upd hf))))) hP
end
section
variable {z : Zn} {X : Cx} {pos p pos1 : Pos} {j k kk : Nat} {x : Str} {T : List (Addr × Str)} {PT : Addr} {pa1 : Arguments} {bo1 : Expr} {sc1 : Scope} {js1 : List Nat} {w1 : List PyData → Addr → Str → PyData → Prop} {Cs : List (Addr × Str × Str)}
theorem je_met (D : DefV X.prog X.w X.K X.mg X.base j x (spMetX X.prog X.w X.K X.mg X.base k Cs)) (hr : Room kk X.A) (L : LTab X T PT) (l1 : LamR X k pa1 bo1 sc1 js1 w1)
    (hf1 : ∀ y ∈ sc1.names, y.2 = .free → X.env.scope.names.lookup y.1 = some .cell ∨ X.env.scope.names.lookup y.1 = some .free)
    (hT : z.T = T := by rfl) (hfn : ∀ y, X.fn y = true := by intro _; rfl) (hk : j ≤ kk := by first | decide | omega) (hg : Gl X x := by rfl) (hd1 : defaultsOf pa1 X.env = ([], []) := by rfl)
    (hdb : (x == ("__debug__" : Str)) = false := by decide)
    (hs1 : starEach [.Lambda pa1 bo1 sc1 pos1] X.env = (false, eval (.Lambda pa1 bo1 sc1 pos1) X.env) :: starEach [] X.env := by rfl) (hpl : (backTo pos (starEach [] X.env)).any (·.1) = false := by rfl) :
    JE z X (.Call (.Name x p) [.Lambda pa1 bo1 sc1 pos1] [] pos) (tCallT X (spMetX X.prog X.w X.K X.mg X.base k Cs) (tCons (tLam1 T PT (mkLam (X.env.qual ++ "<lambda>") pa1 bo1 sc1 X.env.cells)) tNil)) (wMet Cs js1 w1) := by
  subst hT
  obtain ⟨f, fd, ps, F, hm, hkp, hb⟩ := D.ex
  exact ⟨pe_callT F (hr.mono hk) hfn hg hm hkp hb (pa_cons (pe_lam L hf1 hd1) pa_nil hs1) hdb hs1 hpl, den_met l1 ⟨_, L.hm⟩⟩
end
section
variable {X : Cx} {k : Nat}
/-- a lambda of the frame that raises, by its body -/
theorem lam_r {params : Arguments} {body : Expr} {scope : Scope} {N fr : List Str} {js : List Nat} (w1 : List PyData → Addr → Str → PyData → Prop) (S0 : NScope N [] fr scope)
    (hbd : ∀ (cl : List (Str × Addr)) (pm ctv : Value) (c' : Addr) (us : List Value), us.length = ([] : List Str).length → bindArgs (PySem.W.kla_fn "<lambda>" (X.env.qual ++ "<lambda>") params body scope cl pm (.ref c') ctv) ⟨us, []⟩ = pure (([] : List Str).zip us))
    (hfr : ∀ y ∈ fr, (y, NameKind.free) ∈ scope.names) (hkin : ∀ y ∈ scope.names, y.2 = .free → X.env.scope.names.lookup y.1 = some .cell ∨ X.env.scope.names.lookup y.1 = some .free) (hjs : js.map (fun j => X.N[j]?) = fr.map some)
    (hbody : ∀ (f c' : Addr) (A : Around) (outer : List Env) (s : Shared) (H : Hp) (E : XK), Room k (A.deeper (envF (mkLam (X.env.qual ++ "<lambda>") params body scope X.env.cells c').nf f s.heap.objs.size)) →
      Takes (ncx (L2.CX X.prog X.w) X.prog X.w X.K X.mg X.base N (mkLam (X.env.qual ++ "<lambda>") params body scope X.env.cells c').nf f A outer s H E) (fun cls d _ H => (zX E).W cls d H) →
      ∃ t we, JX (zX E) (ncx (L2.CX X.prog X.w) X.prog X.w X.K X.mg X.base N (mkLam (X.env.qual ++ "<lambda>") params body scope X.env.cells c').nf f A outer s H E) body t we ∧ ∀ ws es Ce fld d RX, ws.length = fr.length → es.length = fr.length → w1 es Ce fld d → (∀ v, RX (.ref Ce) fld v d) → we (startV N ws es) RX) :
    LamR X (k + 1) params body scope js w1 := fun σ G H1 C f c' ws es Fc Ce fld d tl hno hf hc hσ ra hw => by
  have l1 : ws.length = fr.length := by
    have e1 := congrArg List.length hjs
    have e2 := congrArg List.length hσ
    simp at e1 e2
    rw [← e1, e2]
  have l2 : es.length = fr.length := by rw [← ra.length, l1]
  exact ⟨_, mk_thunk (k := k) (ob := fun _ _ R RX => ∀ v, RX (.ref Ce) fld v d) tl hno hf hc S0 (fun cl pm ctv us hl => hbd cl pm ctv c' us hl) hfr hkin hjs hσ ra fun A outer s H E hr tk vs ds R RX e1 e2 ho => by
    obtain ⟨t, we, J, h⟩ := hbody f c' A outer s H E hr tk
    have z1 : vs = [] := List.length_eq_zero_iff.mp e1
    have z2 : ds = [] := List.length_eq_zero_iff.mp e2
    subst z1 z2
    exact .inl ⟨t, we, J, h ws es Ce fld d RX l1 l2 hw ho⟩⟩
end
end OT
/-! Owned trees, 12: a lambda that catches nothing, in a frame with cells. -/
namespace OT
open PySem PySem.Spec PyProof.Rows L2 DD CL LamX NdefX
open Evl (Ex)
section
variable {X : Cx} {H1 : Hp} {f c' : Addr} {q : Str} {params : Arguments} {body : Expr} {scope : Scope} {N ps : List Str} {k : Nat} {Fc : Hp} {ob : XSp} {cells : List (Str × Addr)}
theorem mk_thunk0 (hf : H1 f = some (LfO f (mkLam q params body scope cells c'))) (hc : H1 c' = some (CodeO c' q)) (S : NScope N ps [] scope)
    (hbd : ∀ (cl : List (Str × Addr)) (pm ctv : Value) (us : List Value), us.length = ps.length → bindArgs (PySem.W.kla_fn "<lambda>" q params body scope cl pm (.ref c') ctv) ⟨us, []⟩ = pure (ps.zip us))
    (hcl : (mkLam q params body scope cells c').cl = [])
    (hbody : ∀ (A : Around) (outer : List Env) (s : Shared) (H : Hp) (E : XK), Room k (A.deeper (envF (mkLam q params body scope cells c').nf f s.heap.objs.size)) → Takes (ncx (L2.CX X.prog X.w) X.prog X.w X.K X.mg X.base N (mkLam q params body scope cells c').nf f A outer s H E) (fun cls d _ H => (zX E).W cls d H) → ∀ vs ds R RX, vs.length = ps.length → ds.length = ps.length → ob vs ds R RX →
      (∃ t we, JX (zX E) (ncx (L2.CX X.prog X.w) X.prog X.w X.K X.mg X.base N (mkLam q params body scope cells c').nf f A outer s H E) body t we ∧ we (startV N (vs ++ []) (ds ++ [])) RX) ∨ (∃ t we, JE (zX E) (ncx (L2.CX X.prog X.w) X.prog X.w X.K X.mg X.base N (mkLam q params body scope cells c').nf f A outer s H E) body t we ∧ we (startV N (vs ++ []) (ds ++ [])) fun d _ => R d)) :
    Thunk X.prog X.w X.K X.mg X.base (k + 1) ps.length (dOf f c' H1 (fun _ => none) []) [] Fc f ob ∧ Ex (dOf f c' H1 (fun _ => none) []) H1 := by
  have df : dOf f c' H1 (fun _ => none) [] f = some (LfO f (mkLam q params body scope cells c')) := by unfold dOf; rw [if_neg (by simp), if_pos (.inl rfl)]; exact hf
  have dc : dOf f c' H1 (fun _ => none) [] c' = some (CodeO c' q) := by unfold dOf; rw [if_neg (by simp), if_pos (.inr rfl)]; exact hc
  have cs : ∀ b o, dOf f c' H1 (fun _ => none) [] b = some o → (b = f ∨ b = c') ∧ H1 b = some o := fun b o h => by
    unfold dOf at h
    rw [if_neg (by simp)] at h
    by_cases h2 : b = f ∨ b = c'
    · rw [if_pos h2] at h; exact ⟨h2, h⟩
    · rw [if_neg h2] at h; cases h
  refine ⟨thunk_of (F := mkLam q params body scope cells c') (fr := []) (ws := []) (es := []) S (fun pm ctv us => hbd _ pm ctv us) (fun b o h => ?_) df dc ⟨fun _ h => (nomatch h), fun y c h => ?_, fun x y c h => ?_, rfl, fun i y h => ?_⟩ .nil hbody, fun b o h => (cs b o h).2⟩
  · obtain ⟨rfl | rfl, h2⟩ := cs b o h
    · rw [hf] at h2; cases h2; exact ⟨_, rfl⟩
    · rw [hc] at h2; cases h2; exact ⟨_, rfl⟩
  · rw [hcl] at h; simp at h
  · rw [hcl] at h; simp at h
  · simp at h
end
end OT
/-! Owned trees, 13: very(word, lambda) in a frame with cells. -/
namespace OT
open PySem PySem.Spec PyProof.Rows L2 DD CL LamX NdefX
open Evl (Ex)
theorem cellX_code {c : Addr} {o : Obj} {u : Option Value} {q : Str} (hd : o.data = .cell u) : CellX c o ≠ CodeO c q := fun e => by
  unfold CellX CodeO at e
  have e4 := HO.ext.inj e
  have e5 := congrFun e4 (⟨(List.replicate (c + 1) o).toArray, {}⟩ : Heap)
  have g : (⟨(List.replicate (c + 1) o).toArray, {}⟩ : Heap).get? c = some o := by
    simp [Heap.get?]
    cases o
    simp at hd
    subst hd
    rfl
  rw [g] at e5
  have e6 := e5.mp rfl
  obtain ⟨oc, vs, t, h1, h2, _⟩ := e6
  cases h1
  rw [hd] at h2
  cases h2
section
theorem very_den {X : Cx} {σ : L2.St} {H : Hp} {word fld : Str} {C0 PT : Addr} {T : List (Addr × Str)} {k : Nat} {Cs : List (Addr × Str × Str)} {params : Arguments} {body : Expr} {scope : Scope} {Q : VK} {ob : XSp} (hin : (C0, word, fld) ∈ Cs) (hT : Tabs T H)
    (hob : ∀ v R RX, RX (.ref C0) fld v (.list [.str "odd"]) → ob [v] [.list [.str "odd"]] R RX)
    (hth : ∀ (f c' : Addr) (H1 : Hp), H1 f = some (LfO f (mkLam (X.env.qual ++ "<lambda>") params body scope X.env.cells c')) → H1 c' = some (CodeO c' (X.env.qual ++ "<lambda>")) → ∃ D, Thunk X.prog X.w X.K X.mg X.base k 1 D [] (fun _ => none) f ob ∧ Ex D H1)
    (kk : ∀ H', Tabs T H' → Q (.bl true) H') :
    tCallT X (spVery X.prog X.w X.K X.mg X.base T k Cs) (tCons (tC (.str word)) (tCons (tLam1 T PT (mkLam (X.env.qual ++ "<lambda>") params body scope X.env.cells)) tNil)) σ H Q := by
  refine ⟨hT, fun f1 c1 H1 a1 a2 a3 a4 a5 a6 => ?_⟩
  intro G C tl hno
  obtain ⟨D, th, hD⟩ := hth f1 c1 H1 a5 a6
  have hGC : ∀ x ∈ C, ∃ o, G x = some (CellX x o) := fun x hx => by
    obtain ⟨o, u, e, _⟩ := tl.all x hx
    exact ⟨o, e⟩
  have sP : Ex H1 (put H1 G C) := fun b u e => by
    have : b ∉ C := fun q => by rw [hno b q] at e; cases e
    rw [put_out this]; exact e
  have tP : Tabs T (put H1 G C) := a3.ext sP
  have hz : ∀ c ∈ C, ¬ Zv (zT T) c := fun c hc hz => by
    obtain ⟨q, hq⟩ := zv_zT.mp hz
    obtain ⟨ps, e, _⟩ := tP _ hq
    have e : put H1 G C c = some (.tbl ps) := e
    obtain ⟨o, e'⟩ := hGC c hc
    rw [put_in hc, e'] at e
    unfold CellX at e; cases e
  refine ⟨word, f1, D, fun _ => none, fun _ => none, ob, C0, fld, rfl, hin, th, fun b u e => sP b u (hD b u e), (fun _ _ e => nomatch e), (fun _ _ e => nomatch e), fun _ _ => rfl, hob, tP, fun H' F' g tb => ?_⟩
  obtain ⟨gO, kc⟩ := grow_off g hno hGC (fun _ _ => rfl) hz
  refine ⟨kc, kk _ fun p hp => ?_⟩
  obtain ⟨ps, e, r⟩ := tb p hp
  exact ⟨ps, by rw [off_out fun q => hz _ q (zv_zT.mpr ⟨p.2, hp⟩)]; exact e, r.1, fun pos cv h => by
    obtain ⟨c, e1, e2⟩ := r.2 pos cv h
    have hc : c ∉ C := fun q => by
      obtain ⟨o, u, e', hd⟩ := tl.all c q
      rw [kc c q, e'] at e2
      exact cellX_code hd (Option.some.inj e2)
    exact ⟨c, e1, by rw [off_out hc]; exact e2⟩⟩
end
end OT
/-! The Deep layer: what is in a dict, dict comprehensions, comprehensions of two fors. -/
namespace DD
open PySem PySem.Spec PyProof.Rows L2
open Evl (Ex)
/-! ### k in d -/
/-- what k in d looks up; an empty dict is of either kind -/
def DInE (H : Hp) (a : Addr) (y : V) (o : Option V) : Prop := DGet H a y o ∨ Rd H a (.dK []) ∧ o = none ∧ ∃ (b : Addr) (ks : List Key), y = .ref b ∧ H b = some (.tup (ks.map kV))
def rInDi : R2 := fun y x H Q => ∃ a o, x = .ref a ∧ DInE H a y o ∧ Q (.bl o.isSome) H
def rNotInDi : R2 := fun y x H Q => ∃ a o, x = .ref a ∧ DInE H a y o ∧ Q (.bl (!o.isSome)) H
theorem empty_h {P : Program} {w : World} {H : Hp} {h : Heap} {a : Addr} (x : ObjOk P w H h a (.dK [])) : HOk P w (fun b => if b = a then some (.dT []) else none) h := fun b o e => by
  by_cases hb : b = a
  · subst hb
    have e : some (HO.dT []) = some o := by rw [← e]; exact (if_pos rfl).symm
    cases e
    obtain ⟨z, hd, vs, rel, o, es, ep, h1, h2, h3, h4, h5, h6⟩ := x
    cases rel
    have e0 : es.toList = [] := by
      cases q : es.toList with
      | nil => rfl
      | cons x xs => rw [q] at h5; cases h5
    exact ⟨Nat.zero_le _, hd, [], .nil, o, es, ep, h1, h2, h3, by rw [e0]; rfl, List.nodup_nil⟩
  · have e : none = some o := by rw [← e]; exact (if_neg hb).symm
    cases e
theorem e_in {X : Cx} {pins : List (Addr × Obj)} {σ : L2.St} {H : Hp} {s : Shared} {a b : Addr} {ks : List Key} {u : Value} {Q : Value → Shared → Prop} {E : Value → Shared → Prop} (hu : X.A.units + 1 < cLine) (I : Inv X pins σ H s) (e : Rd H a (.dK [])) (eb : H b = some (.tup (ks.map kV))) (ry : RelV (.ref b) u) :
    ((∀ s', Inv X pins σ H s' → Q (.bool false) s') → wpAny (model X.prog X.w) X.A (compareOp .In u (.ref a)) Q E s) ∧ ((∀ s', Inv X pins σ H s' → Q (.bool true) s') → wpAny (model X.prog X.w) X.A (compareOp .NotIn u (.ref a)) Q E s) := by
  cases (show u = Value.ref b from ry)
  obtain ⟨_, hd, xs, rel, dd⟩ := dt_of (empty_h (e.ok I.hok)) (if_pos rfl)
  cases rel
  exact ⟨fun h => wpAny_in_heap (tupleKind_room_in1 hu) (key_of I.hok eb) hd dd (h _ (I.tok _)), fun h => wpAny_notIn_heap (tupleKind_room_in1 hu) (key_of I.hok eb) hd dd (h _ (I.tok _))⟩
def okIn (es : List (PyData × PyData)) (k : PyData) : Bool := (keyA k && es.all fun p => keyA p.1) || (keyT k && es.all fun p => keyT p.1)
theorem rd_in {F H : Hp} {a : Addr} {y : V} {kvs : List (Key × V)} {es : List (PyData × PyData)} {k : PyData} (sub : Ex F H) (ea : Rd H a (.dK kvs)) (r : RpK F kvs es) (ry : Rp F y k) (h : okIn es k = true) : ∃ o, DInE H a y o ∧ o.isSome = (lookE es k).isSome := by
  unfold okIn at h
  rw [Bool.or_eq_true] at h
  simp only [Bool.and_eq_true] at h
  rcases h with ⟨k1, k2⟩ | ⟨k1, k3⟩
  · obtain ⟨kk, rfl⟩ := keyA_of k1
    rw [rp_key ry]
    refine ⟨_, .inl (.inl ⟨kvs, kk, ea, rfl, rfl⟩), ?_⟩
    rcases r.look (k := kk) with ⟨a1, a2⟩ | ⟨v, d, a1, a2, _⟩
    · rw [a1, a2]; rfl
    · rw [a1, a2]; rfl
  · cases r with
    | nil =>
      obtain ⟨ks, rfl⟩ := keyT_of k1
      cases ry with
      | @tup b xs _ eb ra =>
        have ex := rpA_keys ra
        subst ex
        exact ⟨none, .inr ⟨ea, rfl, b, ks, rfl, sub b _ eb⟩, rfl⟩
    | cons h' r' => rename_i j _ _ _ _; cases j <;> simp [keyT, keyD] at k3
theorem rdT_in {F H : Hp} {a : Addr} {y : V} {kvs : List (List Key × V)} {es : List (PyData × PyData)} {k : PyData} (sub : Ex F H) (ea : Rd H a (.dT kvs)) (n : kvs ≠ []) (r : RpT F kvs es) (ry : Rp F y k) (h : okIn es k = true) : ∃ o, DInE H a y o ∧ o.isSome = (lookE es k).isSome := by
  unfold okIn at h
  rw [Bool.or_eq_true] at h
  simp only [Bool.and_eq_true] at h
  rcases h with ⟨k1, k2⟩ | ⟨k1, k3⟩
  · cases r with
    | nil => exact absurd rfl n
    | cons _ _ => simp [keyA] at k2
  · obtain ⟨ks, rfl⟩ := keyT_of k1
    cases ry with
    | @tup b xs _ eb ra =>
      have ex := rpA_keys ra
      subst ex
      refine ⟨_, .inl (.inr ⟨kvs, ks, b, ea, rfl, sub b _ eb, rfl⟩), ?_⟩
      rcases r.look (k := ks) with ⟨a1, a2⟩ | ⟨v, d, a1, a2, _⟩
      · rw [a1, a2]; rfl
      · rw [a1, a2]; rfl
theorem rp_din {F H : Hp} {x y : V} {es : List (PyData × PyData)} {k : PyData} (sub : Ex F H) (rx : Rp F x (.dict es)) (ry : Rp F y k) (h : okIn es k = true) : ∃ a o, x = .ref a ∧ DInE H a y o ∧ o.isSome = (lookE es k).isSome := by
  cases rx with
  | @dK a o kvs _ ea r =>
    obtain ⟨o', h1, h2⟩ := rd_in sub (.inr ⟨o, sub a _ ea⟩) r ry h
    exact ⟨a, o', rfl, h1, h2⟩
  | @dT a o kvs _ ea n r =>
    obtain ⟨o', h1, h2⟩ := rdT_in sub (.inr ⟨o, sub a _ ea⟩) n r ry h
    exact ⟨a, o', rfl, h1, h2⟩
theorem dat_din {F H : Hp} {l : Addr} {y : V} {es : List (PyData × PyData)} {k : PyData} (sub : Ex F H) (h : DAt F H l es) (ry : Rp F y k) (hk : okIn es k = true) : ∃ o, DInE H l y o ∧ o.isSome = (lookE es k).isSome := by
  rcases h with ⟨kvs, ea, r⟩ | ⟨kvs, ea, n, r⟩
  · exact rd_in sub (.inl ea) r ry hk
  · exact rdT_in sub (.inl ea) n r ry hk
@[simp] def fInDi : PyData → PyData → (PyData → Prop) → Prop := fun k d P => ∃ es, d = .dict es ∧ okIn es k = true ∧ P (.bool (lookE es k).isSome)
@[simp] def fNotInDi : PyData → PyData → (PyData → Prop) → Prop := fun k d P => ∃ es, d = .dict es ∧ okIn es k = true ∧ P (.bool (!(lookE es k).isSome))
section
variable {z : Zn} {X : Cx} {k : Nat}
theorem op_inDi (hu : X.A.units + 1 < cLine) : OpR X (compareOp .In) rInDi := by
  intro pins s σ H x y v u Q I rx ry h
  obtain ⟨a, o, rfl, g | ⟨e, rfl, b, ks, rfl, eb⟩, q⟩ := h
  · cases (show u = Value.ref a from ry)
    exact d_in hu I g rx fun s' I' => ⟨.bl _, H, I', rfl, q⟩
  · cases (show u = Value.ref a from ry)
    exact (e_in hu I e eb rx).1 fun s' I' => ⟨.bl _, H, I', rfl, q⟩
theorem op_notInDi (hu : X.A.units + 1 < cLine) : OpR X (compareOp .NotIn) rNotInDi := by
  intro pins s σ H x y v u Q I rx ry h
  obtain ⟨a, o, rfl, g | ⟨e, rfl, b, ks, rfl, eb⟩, q⟩ := h
  · cases (show u = Value.ref a from ry)
    exact d_notIn hu I g rx fun s' I' => ⟨.bl _, H, I', rfl, q⟩
  · cases (show u = Value.ref a from ry)
    exact (e_in hu I e eb rx).2 fun s' I' => ⟨.bl _, H, I', rfl, q⟩
theorem den_inDi : DenR z rInDi fInDi := by
  intro H F x y d e P Q s rx ry hf k
  obtain ⟨es, rfl, h1, q⟩ := hf
  obtain ⟨a, o, ex, g, e⟩ := rp_din s ry rx h1
  exact ⟨a, o, ex, g, k _ H F _ (Grow.stay s) (.bl _) (by rw [e]; exact q)⟩
theorem den_notInDi : DenR z rNotInDi fNotInDi := by
  intro H F x y d e P Q s rx ry hf k
  obtain ⟨es, rfl, h1, q⟩ := hf
  obtain ⟨a, o, ex, g, e⟩ := rp_din s ry rx h1
  exact ⟨a, o, ex, g, k _ H F _ (Grow.stay s) (.bl _) (by rw [e]; exact q)⟩
theorem c_inDi (hr : Room k X.A) : JC z X .In rInDi fInDi := ⟨op_inDi (by have := hr.units; omega), den_inDi⟩
theorem c_notInDi (hr : Room k X.A) : JC z X .NotIn rNotInDi fNotInDi := ⟨op_notInDi (by have := hr.units; omega), den_notInDi⟩
/-- k in x, x an own dict -/
@[simp] def wInOwn (i : Nat) (neg : Bool) (wk : WE) : WT := fun en P => wk en fun k n => ∃ es, en.s[i]? = some (.ownD es) ∧ okIn es k = true ∧ P ((lookE es k).isSome != neg) n
theorem jt_inOwn {a : Expr} {x : Str} {ta' : TE} {wk : WE} {p0 pos : Pos} (i : Nat) (hr : Room k X.A) (ha : JE z X a ta' wk) (hN : X.N[i]? = some x := by rfl) (hv : Vis X.env.scope x := by first | exact Or.inl rfl | exact Or.inr (Or.inl rfl) | exact Or.inr (Or.inr rfl)) (hd : (x == ("__debug__" : Str)) = false := by decide)
    (hcd : (x == ("__classdict__" : Str)) = false := by decide) (hm : behindInMarks .In (.Name x p0) = false := by first | exact nomark _ | rfl) : JT z X (.Compare a [.In] [.Name x p0] pos) (tTest (tOp rInDi ta' (tVar i))) (wInOwn i false wk) where
  pt := pt_cmpR (op_inDi (by have := hr.units; omega)) ha.pe (pv i hN hv hd hcd) hm
  de := fun B σ H F en s P Q hw kk => by
    refine ha.de B σ H F en s _ _ hw fun v H1 F1 d n1 g1 s1 r1 q1 => ?_
    obtain ⟨es, hes, ok, q⟩ := q1
    have sa := s.grow g1 s1
    obtain ⟨l, e1, e2, e3, e4, e5⟩ := sa.ownd hes
    obtain ⟨o, g, e⟩ := dat_din g1.sub e4 r1 ok
    refine ⟨.ref l, e1, l, o, rfl, g, _, rfl, kk _ H1 F1 n1 g1 s1 ?_⟩
    rw [e]
    simpa using q
theorem jt_notInOwn {a : Expr} {x : Str} {ta' : TE} {wk : WE} {p0 pos : Pos} (i : Nat) (hr : Room k X.A) (ha : JE z X a ta' wk) (hN : X.N[i]? = some x := by rfl) (hv : Vis X.env.scope x := by first | exact Or.inl rfl | exact Or.inr (Or.inl rfl) | exact Or.inr (Or.inr rfl)) (hd : (x == ("__debug__" : Str)) = false := by decide)
    (hcd : (x == ("__classdict__" : Str)) = false := by decide) (hm : behindInMarks .NotIn (.Name x p0) = false := by first | exact nomark _ | rfl) : JT z X (.Compare a [.NotIn] [.Name x p0] pos) (tTest (tOp rNotInDi ta' (tVar i))) (wInOwn i true wk) where
  pt := pt_cmpR (op_notInDi (by have := hr.units; omega)) ha.pe (pv i hN hv hd hcd) hm
  de := fun B σ H F en s P Q hw kk => by
    refine ha.de B σ H F en s _ _ hw fun v H1 F1 d n1 g1 s1 r1 q1 => ?_
    obtain ⟨es, hes, ok, q⟩ := q1
    have sa := s.grow g1 s1
    obtain ⟨l, e1, e2, e3, e4, e5⟩ := sa.ownd hes
    obtain ⟨o, g, e⟩ := dat_din g1.sub e4 r1 ok
    refine ⟨.ref l, e1, l, o, rfl, g, _, rfl, kk _ H1 F1 n1 g1 s1 ?_⟩
    rw [e]
    simpa using q
end
/-! ### {k: v for .. in ..} -/
theorem grow_put1 {z : Zn} {F1 H1 F H : Hp} {D : Addr} {o : HO} (g : Grow z F1 H1 F H) (hD : H1 D = none) (f : F D = none) : Grow z F1 H1 F (L2.upd H D o) where
  keep := fun b u nz h => by
    rw [upd_ne (ne_of_none h hD)]
    exact g.keep b u nz h
  dom := fun b h => by
    by_cases hb : b = D
    · subst hb; exact hD
    · rw [upd_ne hb] at h; exact g.dom b h
  ext := g.ext
  sub := fun b u h => by
    rw [upd_ne (ne_of_none h f)]
    exact g.sub b u h
  new := g.new
/-- what a dict comprehension does with the items ds -/
def DcIn (wg : En → PyData → (En → Prop) → Prop) (wt : WT) (wk wv : WE) (vs : List Nat) (en : En) (P : PyData → Nat → Prop) (ds : List PyData) (n : Nat) : Prop :=
  ∃ I : Nat → List (PyData × PyData) → Nat → Prop, I 0 [] n ∧ (∀ (k : Nat) (d : PyData) (acc : List (PyData × PyData)) (n1 : Nat), ds[k]? = some d → I k acc n1 → wg (wipeE ⟨en.s, n1⟩ vs) d fun en2 => wt en2 fun b n2 => if b = true then wk ⟨en2.s, n2⟩ fun y n3 => wv ⟨en2.s, n3⟩ fun r n4 => keyA y = true ∧ acc.length < 100000 ∧ I (k + 1) (putE acc y r) n4 else I (k + 1) acc n2) ∧
  ∀ acc n1, I ds.length acc n1 → P (.dict acc) n1
def wDc (ws : WA) (wg : En → PyData → (En → Prop) → Prop) (wt : WT) (wk wv : WE) (vs : List Nat) : WE := fun en P => ws en (DcIn wg wt wk wv vs en P)
theorem wDc_def {ws : WA} {wg : En → PyData → (En → Prop) → Prop} {wt : WT} {wk wv : WE} {vs : List Nat} {en : En} {P : PyData → Nat → Prop} : wDc ws wg wt wk wv vs en P = ws en (DcIn wg wt wk wv vs en P) := rfl
section
variable {z : Zn} {X : Cx} {tg iter elt kx : Expr} {ifs : List Expr} {pos : Pos}
theorem den_dc {wi : TI} {g : TG} {tt : TT} {tk te : TE} {ws : WA} {js vs : List Nat} {wg : En → PyData → (En → Prop) → Prop} {wt : WT} {wk we : WE} (hi : DenI z wi ws) (hg : DenG z g js wg) (ht : DenT z tt wt) (hk : Den z tk wk) (he : Den z te we) (hj : ∀ j ∈ js, j ∈ vs) : Den z (tLk (tDc wi g tt tk te vs)) (wDc ws wg wt wk we vs) := by
  intro B σ H F en s P Q hw k
  refine hi B σ H F en s _ _ hw fun J H1 F1 ds n1 g1 s1 y1 q1 => ?_
  obtain ⟨I, i0, turn, fin⟩ := q1
  intro D hD
  have hDF : F1 D = none := none_of_sub g1.sub hD
  have zD : ¬ Zv z D := zv_not s1 hD
  refine ⟨fun i m H' => m = ds.length - i ∧ i ≤ ds.length ∧ ∃ F' acc dacc n', Grow z F1 H1 F' H' ∧ Stm z n' H' ∧ F' D = none ∧ H' D = some (.dK acc) ∧ RpK F' acc dacc ∧ I i dacc n', ⟨ds.length, rfl, Nat.zero_le _, F1, [], [], n1, Grow.fresh g1.sub hD, s1.new hD, hDF, upd_same, .nil, i0⟩, ?_⟩
  rintro i m H2 ⟨rfl, hle, F2, acc, dacc, n2, g2, s2, f2, d2, r2, i2⟩
  by_cases hlt : i < ds.length
  · refine .inr ⟨y1.go i H2 (g2.ext.trans g2.sub) hlt, fun H' => ∃ F' acc dacc n', Grow z F1 H1 F' H' ∧ Stm z n' H' ∧ F' D = none ∧ H' D = some (.dK acc) ∧ RpK F' acc dacc ∧ I (i + 1) dacc n', fun H' p => ⟨ds.length - (i + 1), by omega, rfl, hlt, p⟩, fun x H3 hy => ?_⟩
    obtain ⟨F3, g3, r3⟩ := y1.yld i x F2 H2 H3 g2.ext g2.sub hy ds[i] (by simp)
    have s3 : Stm z n2 H3 := s2.ex g3.ex
    have g23 : Grow z F1 H1 F3 H3 := g2.trans g3.weak
    have sit3 : Sit z B σ H3 F3 ⟨en.s, n2⟩ := s.grow (g1.trans g23) s3
    have w3 := sit3.wipe vs
    have d3 : H3 D = some (.dK acc) := g3.ex _ _ d2
    have f3 : F3 D = none := (g3.weak (z := z)).apart d2 zD (fun _ q => nomatch q) f2
    refine hg B _ H3 F3 _ x ds[i] w3 r3 _ _ (turn i ds[i] dacc n2 (by simp) i2) fun σ4 en4 s4 a4 q4 => ?_
    refine ⟨?_, ?_⟩
    · rw [wipe_ext (σ' := σ4) (σ := L2.wipe σ vs) a4.1 fun j hj' => a4.2 j fun q => hj' (hj j q), wipe_idem]
    · refine ht B σ4 H3 F3 en4 s4 _ _ q4 fun b H5 F5 n5 g5 s5 q5 => ?_
      have d5 : H5 D = some (.dK acc) := g5.keep D _ zD d3
      have f5 : F5 D = none := g5.apart d3 zD (fun _ q => nomatch q) f3
      cases b with
      | false =>
        refine iteF ⟨F5, acc, dacc, n5, g23.trans g5, s5, f5, d5, (r2.mono g3.ext).mono g5.ext, by simpa using q5⟩
      | true =>
        refine iteT (hk B σ4 H5 F5 _ (s4.grow g5 s5) _ _ (by simpa using q5) fun y H6 F6 dk n6 g6 s6 r6 q6 => ?_)
        have sit6 := (s4.grow g5 s5).grow g6 s6
        refine he B σ4 H6 F6 _ sit6 _ _ q6 fun v H7 F7 d n7 g7 s7 r7 q7 => ?_
        obtain ⟨hy, hl, q7⟩ := q7
        obtain ⟨kk, rfl⟩ := keyA_of hy
        have d6 : H6 D = some (.dK acc) := g6.keep D _ zD d5
        have f6 : F6 D = none := g6.apart d5 zD (fun _ q => nomatch q) f5
        have d7 : H7 D = some (.dK acc) := g7.keep D _ zD d6
        have f7 : F7 D = none := g7.apart d6 zD (fun _ q => nomatch q) f6
        have r7' := (((r2.mono g3.ext).mono g5.ext).mono g6.ext).mono g7.ext
        refine ⟨acc, kk, rp_key r6, d7, Evl.sz_lt (by rw [r2.length]; exact hl), F7, putK acc kk v, putE dacc (keyD kk) d, n7, grow_put1 (((g23.trans g5).trans g6).trans g7) hD f7, s7.upd zD (fun _ q => by rw [d7] at q; cases q), f7, upd_same, r7'.put r7, q7⟩
  · have e : i = ds.length := by omega
    subst e
    refine .inl ⟨y1.stop _ H2 (g2.ext.trans g2.sub) (Nat.le_refl _), ?_⟩
    have gg := g1.trans g2
    refine ⟨D, _, d2, trivial, fun od => ?_⟩
    refine k (.ref D) _ (L2.upd F2 D (.frz od (.dK acc))) _ n2 ((grow_put1 gg (g1.dom D hD) f2).freeze (g1.dom D hD) upd_same f2) (s2.upd zD (fun _ q => by rw [d2] at q; cases q)) (.dK upd_same (r2.mono (ex_upd f2))) (fin _ _ i2)
theorem je_dc {scope : Scope} {wi : TI} {g : TG} {tt : TT} {tk te : TE} {ws : WA} {js : List Nat} {wg : En → PyData → (En → Prop) → Prop} {wt : WT} {wk we : WE} (own : List (Str × Nat)) (hN : X.N.Nodup) (hi : JI z X tg iter wi ws) (ok : blkC X.N X.env.scope scope own = true)
    (hg : ∀ (s : Shared) (H : Hp) (C : Addr) (cl : List (Str × Addr)) (fp : List Addr), JG z (X.blk s H scope (compEnvC scope cl C X.env) fp) tg g js wg) (ht : ∀ (s : Shared) (H : Hp) (C : Addr) (cl : List (Str × Addr)) (fp : List Addr), JTs z (X.blk s H scope (compEnvC scope cl C X.env) fp) ifs tt wt)
    (hk : ∀ (s : Shared) (H : Hp) (C : Addr) (cl : List (Str × Addr)) (fp : List Addr), JE z (X.blk s H scope (compEnvC scope cl C X.env) fp) kx tk wk)
    (he : ∀ (s : Shared) (H : Hp) (C : Addr) (cl : List (Str × Addr)) (fp : List Addr), JE z (X.blk s H scope (compEnvC scope cl C X.env) fp) elt te we) (hc : X.calm = true := by rfl) (hj : ∀ j ∈ js, j ∈ own.map (·.2) := by decide)
    (hs : ∀ x, foldedSetIterable iter X.env x = pure x := by intro _; rfl) : JE z X (.DictComp kx elt [⟨tg, iter, ifs, 0⟩] scope pos) (tLk (tDc wi g tt tk te (own.map (·.2)))) (wDc ws wg wt wk we (own.map (·.2))) where
  pe := pe_lk (pe_dc hc hN hi.pi (blkOk_by ok) (fun s H C cl fp => (hg s H C cl fp).pg) (fun s H C cl fp => (ht s H C cl fp).pts) (fun s H C cl fp => (hk s H C cl fp).pe) (fun s H C cl fp => (he s H C cl fp).pe) hs)
  de := den_dc hi.de (hg X.s_0 (fun _ => none) 0 [] []).de (ht X.s_0 (fun _ => none) 0 [] []).de (hk X.s_0 (fun _ => none) 0 [] []).de (he X.s_0 (fun _ => none) 0 [] []).de hj
/-! ### [.. for .. in .. for .. in ..] -/
/-- what the inner for does; I: what holds behind each of its turns -/
def Lc2In (wg1 : En → PyData → (En → Prop) → Prop) (wt1 : WT) (we : WE) (vs1 : List Nat) (en2 : En) (acc : List PyData) (P : List PyData → Nat → Prop) (ds : List PyData) (n : Nat) : Prop :=
  ∃ I1 : Nat → List PyData → Nat → Prop, I1 0 acc n ∧ (∀ (j : Nat) (d : PyData) (acc : List PyData) (n1 : Nat), ds[j]? = some d → I1 j acc n1 → wg1 (wipeE ⟨en2.s, n1⟩ vs1) d fun en3 => wt1 en3 fun b n2 => if b = true then we ⟨en3.s, n2⟩ fun r n3 => acc.length < 100000 ∧ I1 (j + 1) (acc ++ [r]) n3 else I1 (j + 1) acc n2) ∧ ∀ acc n1, I1 ds.length acc n1 → P acc n1
def wLc2 (ws : WA) (wg : En → PyData → (En → Prop) → Prop) (wt : WT) (ws1 : WA) (wg1 : En → PyData → (En → Prop) → Prop) (wt1 : WT) (we : WE) (vs vs1 : List Nat) : WA := fun en P => ws en fun ds n => ∃ I : Nat → List PyData → Nat → Prop, I 0 [] n ∧
  (∀ (k : Nat) (d : PyData) (acc : List PyData) (n1 : Nat), ds[k]? = some d → I k acc n1 → wg (wipeE ⟨en.s, n1⟩ vs) d fun en2 => wt en2 fun b n2 => if b = true then (en2.s.all fun u => !u.owns) = true ∧ ws1 ⟨en2.s, n2⟩ (Lc2In wg1 wt1 we vs1 en2 acc (I (k + 1))) else I (k + 1) acc n2) ∧
  ∀ acc n1, I ds.length acc n1 → P acc n1
theorem sit_noown {z : Zn} {B : Hp} {σ : L2.St} {H F H' F' : Hp} {en : En} {n' : Nat} (t : Sit z B σ H F en) (h : (en.s.all fun u => !u.owns) = true) (e : Ex F F') (sub : Ex F' H') (st : Stm z n' H') (off : ∀ b, Zv z b → F' b = none) : Sit z B σ H' F' ⟨en.s, n'⟩ where
  sub := sub
  stm := st
  off := off
  len := t.len
  slot := fun i u hu => by
    obtain ⟨o, h1, h2⟩ := t.slot i u hu
    have hno : u.owns = false := by simpa using List.all_eq_true.mp h u (List.mem_of_getElem? hu)
    refine ⟨o, h1, ?_⟩
    cases u with
    | no => trivial
    | val d => obtain ⟨v, e', r⟩ := h2; exact ⟨v, e', r.mono e⟩
    | vat v d => exact ⟨h2.1, h2.2.mono e⟩
    | own _ => cases hno
    | ownD _ => cases hno
    | stm => exact h2
  sep := t.sep
theorem den_lc2 {wi wi1 : TI} {g g1 : TG} {tt tt1 : TT} {te : TE} {ws ws1 : WA} {js js1 vs vs1 : List Nat} {wg wg1 : En → PyData → (En → Prop) → Prop} {wt wt1 : WT} {we : WE} (hi : DenI z wi ws) (hg : DenG z g js wg) (ht : DenT z tt wt) (hi1 : DenI z wi1 ws1) (hg1 : DenG z g1 js1 wg1) (ht1 : DenT z tt1 wt1) (he : Den z te we) (hj : ∀ j ∈ js, j ∈ vs) (hj1 : ∀ j ∈ js1, j ∈ vs1) :
    DenL z (tLc2 wi g tt wi1 g1 tt1 te vs vs1) (wLc2 ws wg wt ws1 wg1 wt1 we vs vs1) := by
  intro B σ H F en s P Q hw k
  refine hi B σ H F en s _ _ hw fun J H1 F1 ds n1 gr1 s1 y1 q1 => ?_
  obtain ⟨I, i0, turn, fin⟩ := q1
  intro D hD
  have hDF : F1 D = none := none_of_sub gr1.sub hD
  have zD : ¬ Zv z D := zv_not s1 hD
  refine ⟨fun i m H' => m = ds.length - i ∧ i ≤ ds.length ∧ ∃ F' acc dacc n', Grow z F1 H1 F' H' ∧ Stm z n' H' ∧ F' D = none ∧ H' D = some (.lst acc) ∧ RpA F' acc dacc ∧ I i dacc n', ⟨ds.length, rfl, Nat.zero_le _, F1, [], [], n1, Grow.fresh gr1.sub hD, s1.new hD, hDF, upd_same, .nil, i0⟩, ?_⟩
  rintro i m H2 ⟨rfl, hle, F2, acc, dacc, n2, g2, s2, f2, d2, r2, i2⟩
  by_cases hlt : i < ds.length
  · refine .inr ⟨y1.go i H2 (g2.ext.trans g2.sub) hlt, fun H' => ∃ F' acc dacc n', Grow z F1 H1 F' H' ∧ Stm z n' H' ∧ F' D = none ∧ H' D = some (.lst acc) ∧ RpA F' acc dacc ∧ I (i + 1) dacc n', fun H' p => ⟨ds.length - (i + 1), by omega, rfl, hlt, p⟩, fun x H3 hy => ?_⟩
    obtain ⟨F3, g3, r3⟩ := y1.yld i x F2 H2 H3 g2.ext g2.sub hy ds[i] (by simp)
    have s3 : Stm z n2 H3 := s2.ex g3.ex
    have g23 : Grow z F1 H1 F3 H3 := g2.trans g3.weak
    have sit3 : Sit z B σ H3 F3 ⟨en.s, n2⟩ := s.grow (gr1.trans g23) s3
    have w3 := sit3.wipe vs
    have d3 : H3 D = some (.lst acc) := g3.ex _ _ d2
    have f3 : F3 D = none := (g3.weak (z := z)).apart d2 zD (fun _ q => nomatch q) f2
    refine hg B _ H3 F3 _ x ds[i] w3 r3 _ _ (turn i ds[i] dacc n2 (by simp) i2) fun σ4 en4 s4 a4 q4 => ?_
    refine ⟨?_, ?_⟩
    · rw [wipe_ext (σ' := σ4) (σ := L2.wipe σ vs) a4.1 fun j hj' => a4.2 j fun q => hj' (hj j q), wipe_idem]
    · refine ht B σ4 H3 F3 en4 s4 _ _ q4 fun b H5 F5 n5 g5 s5 q5 => ?_
      have d5 : H5 D = some (.lst acc) := g5.keep D _ zD d3
      have f5 : F5 D = none := g5.apart d3 zD (fun _ q => nomatch q) f3
      cases b with
      | false =>
        refine iteF ⟨F5, acc, dacc, n5, g23.trans g5, s5, f5, d5, (r2.mono g3.ext).mono g5.ext, by simpa using q5⟩
      | true =>
        refine iteT ?_
        have q5 := show _ ∧ _ from by simpa only [if_true] using q5
        obtain ⟨no, q5⟩ := q5
        refine hi1 B σ4 H5 F5 _ (s4.grow g5 s5) _ _ q5 fun J1 H6 F6 ds1 n6 g6 s6 y6 q6 => ?_
        obtain ⟨I1, j0, turn1, fin1⟩ := q6
        have d6 : H6 D = some (.lst acc) := g6.keep D _ zD d5
        have f6 : F6 D = none := g6.apart d5 zD (fun _ q => nomatch q) f5
        have r6 : RpA F6 acc dacc := ((r2.mono g3.ext).mono g5.ext).mono g6.ext
        have g16 : Grow z F1 H1 F6 H6 := (g23.trans g5).trans g6
        have s46 : Sit z B σ4 H6 F6 ⟨en4.s, n6⟩ := (s4.grow g5 s5).grow g6 s6
        have off1 := (s.grow gr1 s1).off
        refine ⟨fun j m H' => m = ds1.length - j ∧ j ≤ ds1.length ∧ ∃ F' acc dacc n', Grow z F1 H1 F' H' ∧ Ex F6 F' ∧ Stm z n' H' ∧ F' D = none ∧ H' D = some (.lst acc) ∧ RpA F' acc dacc ∧ I1 j dacc n', ⟨ds1.length, rfl, Nat.zero_le _, F6, acc, dacc, n6, g16, Evl.Ex.refl F6, s6, f6, d6, r6, j0⟩, ?_⟩
        rintro j m H7 ⟨rfl, hle1, F7, acc7, dacc7, n7, g17, gx, s7, f7, d7, r7, i7⟩
        by_cases hlt1 : j < ds1.length
        · refine .inr ⟨y6.go j H7 (gx.trans g17.sub) hlt1, fun H' => ∃ F' acc dacc n', Grow z F1 H1 F' H' ∧ Ex F6 F' ∧ Stm z n' H' ∧ F' D = none ∧ H' D = some (.lst acc) ∧ RpA F' acc dacc ∧ I1 (j + 1) dacc n', fun H' p => ⟨ds1.length - (j + 1), by omega, rfl, hlt1, p⟩, fun x H8 hy8 => ?_⟩
          obtain ⟨F8, g8, r8⟩ := y6.yld j x F7 H7 H8 gx g17.sub hy8 ds1[j] (by simp)
          have s8 : Stm z n7 H8 := s7.ex g8.ex
          have d8 : H8 D = some (.lst acc7) := g8.ex _ _ d7
          have f8 : F8 D = none := (g8.weak (z := z)).apart d7 zD (fun _ q => nomatch q) f7
          have g18 : Grow z F1 H1 F8 H8 := g17.trans g8.weak
          have sit8 : Sit z B σ4 H8 F8 ⟨en4.s, n7⟩ := sit_noown (en := ⟨en4.s, n6⟩) s46 no (gx.trans g8.ext) g8.sub s8 fun b hb => s8.off g18 hb (s1.there hb) (off1 b hb)
          have w8 := sit8.wipe vs1
          refine hg1 B _ H8 F8 _ x ds1[j] w8 r8 _ _ (turn1 j ds1[j] dacc7 n7 (by simp) i7) fun σ9 en9 s9 a9 q9 => ?_
          refine ⟨?_, ?_⟩
          · rw [wipe_ext (σ' := σ9) (σ := L2.wipe σ4 vs1) a9.1 fun j hj' => a9.2 j fun q => hj' (hj1 j q), wipe_idem]
          · refine ht1 B σ9 H8 F8 en9 s9 _ _ q9 fun b H10 F10 n10 g10 s10 q10 => ?_
            have d10 : H10 D = some (.lst acc7) := g10.keep D _ zD d8
            have f10 : F10 D = none := g10.apart d8 zD (fun _ q => nomatch q) f8
            cases b with
            | false => refine iteF ⟨F10, acc7, dacc7, n10, g18.trans g10, (gx.trans g8.ext).trans g10.ext, s10, f10, d10, (r7.mono g8.ext).mono g10.ext, by simpa using q10⟩
            | true =>
              refine iteT (he B σ9 H10 F10 _ (s9.grow g10 s10) _ _ (by simpa using q10) fun v H11 F11 d n11 g11 s11 r11 q11 => ?_)
              obtain ⟨hl, q11⟩ := q11
              have d11 : H11 D = some (.lst acc7) := g11.keep D _ zD d10
              have f11 : F11 D = none := g11.apart d10 zD (fun _ q => nomatch q) f10
              have r11' := ((r7.mono g8.ext).mono g10.ext).mono g11.ext
              exact ⟨acc7, d11, Evl.sz_lt (by rw [r7.length]; exact hl), F11, acc7 ++ [v], dacc7 ++ [d], n11, grow_put1 ((g18.trans g10).trans g11) hD f11, ((gx.trans g8.ext).trans g10.ext).trans g11.ext, s11.upd zD (fun _ q => by rw [d11] at q; cases q), f11, upd_same, r11'.append (.one r11), q11⟩
        · have e : j = ds1.length := by omega
          subst e
          exact .inl ⟨y6.stop _ H7 (gx.trans g17.sub) (Nat.le_refl _), F7, acc7, dacc7, n7, g17, s7, f7, d7, r7, fin1 _ _ i7⟩
  · have e : i = ds.length := by omega
    subst e
    refine .inl ⟨y1.stop _ H2 (g2.ext.trans g2.sub) (Nat.le_refl _), ?_⟩
    exact k D acc H2 F2 dacc n2 (gr1.trans g2) s2 (gr1.dom D hD) f2 d2 r2 (fin _ _ i2)
theorem jl_lc2 {tg1 iter1 : Expr} {ifs1 : List Expr} {scope : Scope} {wi wi1 : TI} {g g1 : TG} {tt tt1 : TT} {te : TE} {ws ws1 : WA} {js js1 : List Nat} {wg wg1 : En → PyData → (En → Prop) → Prop} {wt wt1 : WT} {we : WE} (own : List (Str × Nat)) (vs1 : List Nat) (hN : X.N.Nodup) (hi : JI z X tg iter wi ws) (ok : blkC X.N X.env.scope scope own = true)
    (hg : ∀ (s : Shared) (H : Hp) (C : Addr) (cl : List (Str × Addr)) (fp : List Addr), JG z (X.blk s H scope (compEnvC scope cl C X.env) fp) tg g js wg) (ht : ∀ (s : Shared) (H : Hp) (C : Addr) (cl : List (Str × Addr)) (fp : List Addr), JTs z (X.blk s H scope (compEnvC scope cl C X.env) fp) ifs tt wt)
    (hi1 : ∀ (s : Shared) (H : Hp) (C : Addr) (cl : List (Str × Addr)) (fp : List Addr), JI z (X.blk s H scope (compEnvC scope cl C X.env) fp) tg1 iter1 wi1 ws1)
    (hg1 : ∀ (s : Shared) (H : Hp) (C : Addr) (cl : List (Str × Addr)) (fp : List Addr), JG z (X.blk s H scope (compEnvC scope cl C X.env) fp) tg1 g1 js1 wg1) (ht1 : ∀ (s : Shared) (H : Hp) (C : Addr) (cl : List (Str × Addr)) (fp : List Addr), JTs z (X.blk s H scope (compEnvC scope cl C X.env) fp) ifs1 tt1 wt1)
    (he : ∀ (s : Shared) (H : Hp) (C : Addr) (cl : List (Str × Addr)) (fp : List Addr), JE z (X.blk s H scope (compEnvC scope cl C X.env) fp) elt te we) (hc : X.calm = true := by rfl) (hj : ∀ j ∈ js, j ∈ own.map (·.2) := by decide) (hj1 : ∀ j ∈ js1, j ∈ vs1 := by decide) (hv : ∀ i ∈ vs1, i ∈ own.map (·.2) := by decide)
    (hs : ∀ x, foldedSetIterable iter X.env x = pure x := by intro _; rfl) (hs1 : ∀ env x, foldedSetIterable iter1 env x = pure x := by intro _ _; rfl) : JL z X (.ListComp elt [⟨tg, iter, ifs, 0⟩, ⟨tg1, iter1, ifs1, 0⟩] scope pos) (tLc2 wi g tt wi1 g1 tt1 te (own.map (·.2)) vs1) (wLc2 ws wg wt ws1 wg1 wt1 we (own.map (·.2)) vs1) where
  pe := pe_lc2 hc hN hi.pi (blkOk_by ok) hv (fun s H C cl fp => (hg s H C cl fp).pg) (fun s H C cl fp => (ht s H C cl fp).pts) (fun s H C cl fp => (hi1 s H C cl fp).pi) (fun s H C cl fp => (hg1 s H C cl fp).pg) (fun s H C cl fp => (ht1 s H C cl fp).pts) (fun s H C cl fp => (he s H C cl fp).pe) hs hs1
  de := den_lc2 hi.de (hg X.s_0 (fun _ => none) 0 [] []).de (ht X.s_0 (fun _ => none) 0 [] []).de (hi1 X.s_0 (fun _ => none) 0 [] []).de (hg1 X.s_0 (fun _ => none) 0 [] []).de (ht1 X.s_0 (fun _ => none) 0 [] []).de (he X.s_0 (fun _ => none) 0 [] []).de hj hj1
/-- y = [.. for .. for ..], a value -/
theorem js_setLc2V {y : Str} {py : Pos} {tg1 iter1 : Expr} {ifs1 : List Expr} {scope : Scope} {spos : Pos} {wi wi1 : TI} {g g1 : TG} {tt tt1 : TT} {te : TE} {ws ws1 : WA} {js js1 : List Nat} {wg wg1 : En → PyData → (En → Prop) → Prop} {wt wt1 : WT} {we : WE} (i : Nat) (own : List (Str × Nat)) (vs1 : List Nat) (hN : X.N.Nodup) (hy : X.N[i]? = some y) (hyl : X.env.scope.names.lookup y = some .local)
    (hsw : swapsWith (.ListComp elt [⟨tg, iter, ifs, 0⟩, ⟨tg1, iter1, ifs1, 0⟩] scope pos) (some (.Name y py)) spos.line X.env = pure true) (hi : JI z X tg iter wi ws) (ok : blkC X.N X.env.scope scope own = true)
    (hg : ∀ (s : Shared) (H : Hp) (C : Addr) (cl : List (Str × Addr)) (fp : List Addr), JG z (X.blk s H scope (compEnvC scope cl C X.env) fp) tg g js wg) (ht : ∀ (s : Shared) (H : Hp) (C : Addr) (cl : List (Str × Addr)) (fp : List Addr), JTs z (X.blk s H scope (compEnvC scope cl C X.env) fp) ifs tt wt)
    (hi1 : ∀ (s : Shared) (H : Hp) (C : Addr) (cl : List (Str × Addr)) (fp : List Addr), JI z (X.blk s H scope (compEnvC scope cl C X.env) fp) tg1 iter1 wi1 ws1)
    (hg1 : ∀ (s : Shared) (H : Hp) (C : Addr) (cl : List (Str × Addr)) (fp : List Addr), JG z (X.blk s H scope (compEnvC scope cl C X.env) fp) tg1 g1 js1 wg1) (ht1 : ∀ (s : Shared) (H : Hp) (C : Addr) (cl : List (Str × Addr)) (fp : List Addr), JTs z (X.blk s H scope (compEnvC scope cl C X.env) fp) ifs1 tt1 wt1)
    (he : ∀ (s : Shared) (H : Hp) (C : Addr) (cl : List (Str × Addr)) (fp : List Addr), JE z (X.blk s H scope (compEnvC scope cl C X.env) fp) elt te we) (hc : X.calm = true := by rfl) (hj : ∀ j ∈ js, j ∈ own.map (·.2) := by decide) (hj1 : ∀ j ∈ js1, j ∈ vs1 := by decide) (hv : ∀ i ∈ vs1, i ∈ own.map (·.2) := by decide)
    (hs : ∀ x, foldedSetIterable iter X.env x = pure x := by intro _; rfl) (hs1 : ∀ env x, foldedSetIterable iter1 env x = pure x := by intro _ _; rfl) :
    JS z X (.Assign [.Name y py] (.ListComp elt [⟨tg, iter, ifs, 0⟩, ⟨tg1, iter1, ifs1, 0⟩] scope pos) spos) (tAsg (tLc2 wi g tt wi1 g1 tt1 te (own.map (·.2)) vs1) (gName i)) (wAsg (wAsL (wLc2 ws wg wt ws1 wg1 wt1 we (own.map (·.2)) vs1)) (wgN i)) where
  ps := ps_setLc2 hc hN hy hyl hsw hi.pi (blkOk_by ok) hv (fun s H C cl fp => (hg s H C cl fp).pg) (fun s H C cl fp => (ht s H C cl fp).pts) (fun s H C cl fp => (hi1 s H C cl fp).pi) (fun s H C cl fp => (hg1 s H C cl fp).pg) (fun s H C cl fp => (ht1 s H C cl fp).pts) (fun s H C cl fp => (he s H C cl fp).pe) hs hs1
  de := den_asg (jl_lc2 own vs1 hN hi ok hg ht hi1 hg1 ht1 he hc hj hj1 hv hs hs1 (pos := pos)).je'.de (js := [i]) fun B σ H F en v d s r P Q hw k => k _ _ (s.set i r) ⟨by simp, fun j hj => by
    rw [List.getElem?_set_ne]
    intro q
    exact hj (by simp [q])⟩ hw
end
end DD
/-! Dicts of whole numbers as sets. -/
namespace DD
open PySem PySem.Spec PyProof.Rows L2
open Evl (Ex)
open Classical in
theorem putE_mem_key {es : List (PyData × PyData)} {k d : PyData} {x : PyData} : x ∈ (putE es k d).map (·.1) ↔ x = k ∨ x ∈ es.map (·.1) := by
  unfold putE
  split
  · rename_i h
    have e : (es.map fun p => if p.1 = k then (p.1, d) else p).map (·.1) = es.map (·.1) := by
      rw [List.map_map]
      refine List.map_congr_left fun p _ => ?_
      show (if p.1 = k then (p.1, d) else p).1 = p.1
      split <;> rfl
    rw [e]
    refine ⟨.inr, fun h' => h'.elim (fun q => ?_) id⟩
    obtain ⟨p, hp, hk⟩ := List.any_eq_true.mp h
    subst q
    exact List.mem_map.mpr ⟨p, hp, by simpa using hk⟩
  · rw [List.map_append, List.mem_append]
    simp only [List.map_cons, List.map_nil, List.mem_singleton]
    exact or_comm
theorem lookE_some {es : List (PyData × PyData)} {k : PyData} : (lookE es k).isSome = true ↔ k ∈ es.map (·.1) := by
  constructor
  · intro h
    obtain ⟨d, e⟩ := Option.isSome_iff_exists.mp h
    exact List.mem_map.mpr ⟨_, lookE_mem e, rfl⟩
  · intro h
    obtain ⟨d, e, _⟩ := lookE_of h
    rw [e]; rfl
/-- a dict whose keys are whole numbers, just those of R -/
structure Keys (es : List (PyData × PyData)) (R : Int → Prop) : Prop where
  int : ∀ q ∈ es, ∃ p : Int, q.1 = .int p
  iff : ∀ p : Int, PyData.int p ∈ es.map (·.1) ↔ R p
theorem Keys.nil {R : Int → Prop} (h : ∀ p, ¬ R p) : Keys [] R := ⟨fun _ q => (nomatch q), fun p => ⟨fun q => (nomatch q), fun q => (h p q).elim⟩⟩
theorem Keys.put {es : List (PyData × PyData)} {R R' : Int → Prop} {i : Int} {d : PyData} (h : Keys es R) (e : ∀ p, R' p ↔ p = i ∨ R p) : Keys (putE es (.int i) d) R' where
  int := fun q hq => by
    rcases putE_mem hq with rfl | hq
    · exact ⟨i, rfl⟩
    · exact h.int q hq
  iff := fun p => by
    rw [putE_mem_key, e, ← h.iff p]
    simp
theorem Keys.ok {es : List (PyData × PyData)} {R : Int → Prop} (h : Keys es R) (i : Int) : okIn es (.int i) = true := by
  unfold okIn
  rw [Bool.or_eq_true]
  refine .inl ?_
  rw [Bool.and_eq_true]
  refine ⟨rfl, List.all_eq_true.mpr fun q hq => ?_⟩
  obtain ⟨p, e⟩ := h.int q hq
  rw [e]; rfl
theorem Keys.look {es : List (PyData × PyData)} {R : Int → Prop} (h : Keys es R) (i : Int) : (lookE es (.int i)).isSome = true ↔ R i := lookE_some.trans (h.iff i)
theorem Keys.sort {es : List (PyData × PyData)} {R : Int → Prop} (h : Keys es R) : OkSort (es.map (·.1)) := by
  have sh : ∀ d ∈ es.map (·.1), ∃ i : Int, d = .int i := fun d hd => by
    obtain ⟨p, hp, rfl⟩ := List.mem_map.mp hd
    exact h.int p hp
  have fl : ∀ ds : List PyData, (∀ d ∈ ds, ∃ i : Int, d = .int i) → flatDs ds = true := fun ds hd => by
    induction ds with
    | nil => rfl
    | cons d ds ih =>
      obtain ⟨i, rfl⟩ := hd d (by simp)
      rw [flatDs, Bool.and_eq_true]
      exact ⟨rfl, ih fun x hx => hd x (List.mem_cons_of_mem _ hx)⟩
  refine ⟨fl _ sh, fun d hd e he => ?_, .inr fun d hd => ?_, fun d hd => ?_⟩
  · obtain ⟨i, rfl⟩ := sh d hd
    obtain ⟨i', rfl⟩ := sh e he
    simp [PySem.W.alike]
  · obtain ⟨i, rfl⟩ := sh d hd; exact ⟨by simp, by simp⟩
  · obtain ⟨i, rfl⟩ := sh d hd; simp [PyData.depth]
theorem int_list : ∀ {ds : List PyData}, (∀ d ∈ ds, ∃ i : Int, d = .int i) → ∃ zs : List Int, ds = zs.map PyData.int
  | [], _ => ⟨[], rfl⟩
  | d :: ds, h => by
    obtain ⟨i, rfl⟩ := h d (by simp)
    obtain ⟨zs, rfl⟩ := int_list (ds := ds) fun x hx => h x (List.mem_cons_of_mem _ hx)
    exact ⟨i :: zs, rfl⟩
/-- the keys, sorted -/
theorem Keys.sorted {es : List (PyData × PyData)} {R : Int → Prop} (h : Keys es R) : ∃ zs : List Int, (es.map (·.1)).mergeSort (PySem.W.dataLe false id) = zs.map PyData.int ∧ zs.length = es.length ∧ ∀ p, p ∈ zs ↔ R p := by
  obtain ⟨zs, e⟩ := int_list (ds := (es.map (·.1)).mergeSort (PySem.W.dataLe false id)) fun d hd => by
    obtain ⟨p, hp, rfl⟩ := List.mem_map.mp (List.mem_mergeSort.mp hd)
    exact h.int p hp
  refine ⟨zs, e, ?_, fun p => ?_⟩
  · have := congrArg List.length e
    rw [List.length_mergeSort] at this
    simpa using this.symm
  · rw [← h.iff p, ← List.mem_mergeSort (le := PySem.W.dataLe false id), e]
    simp
/-- {number: .. for .. in ds if ..} -/
theorem dci_keys {wg : En → PyData → (En → Prop) → Prop} {wt : WT} {wk wv : WE} {vs : List Nat} {en : En} {P : PyData → Nat → Prop} {ds : List PyData} {n : Nat} (t : PyData → Prop) (key : PyData → Int) (hl : ds.length ≤ 100000)
    (hs : ∀ d ∈ ds, ∀ (n1 : Nat) (G : PyData → PyData → Nat → Prop) (R : Nat → Prop), (t d → ∀ r, G (.int (key d)) r n1) → (¬ t d → R n1) → wg (wipeE ⟨en.s, n1⟩ vs) d fun en2 => wt en2 fun b n2 => if b = true then wk ⟨en2.s, n2⟩ fun y n3 => wv ⟨en2.s, n3⟩ fun r n4 => G y r n4 else R n2)
    (hp : ∀ es, es.length ≤ ds.length → Keys es (fun p => ∃ d ∈ ds, t d ∧ key d = p) → P (.dict es) n) : DcIn wg wt wk wv vs en P ds n := by
  refine ⟨fun k acc n1 => acc.length ≤ k ∧ Keys acc (fun p => ∃ d ∈ ds.take k, t d ∧ key d = p) ∧ n1 = n ∧ k ≤ ds.length, ⟨by simp, Keys.nil (by simp), rfl, Nat.zero_le _⟩, fun k d acc n1 hk ⟨h1, h2, h3, h4⟩ => ?_, fun acc n1 ⟨h1, h2, h3, _⟩ => ?_⟩
  · have hkl : k < ds.length := (List.getElem?_eq_some_iff.mp hk).1
    have tk : ds.take (k + 1) = ds.take k ++ [d] := by rw [List.take_add_one, hk]; rfl
    refine hs d (List.mem_of_getElem? hk) n1 _ _ (fun ht r => ⟨rfl, by omega, ?_, ?_, h3, hkl⟩) fun ht => ⟨by omega, ?_, h3, hkl⟩
    · have := putE_len acc (.int (key d)) r
      omega
    · refine h2.put fun p => ?_
      rw [tk]
      constructor
      · rintro ⟨x, hx, h5, h6⟩
        rcases List.mem_append.mp hx with hx | hx
        · exact .inr ⟨x, hx, h5, h6⟩
        · rw [List.mem_singleton.mp hx] at h6; exact .inl h6.symm
      · rintro (rfl | ⟨x, hx, h5⟩)
        · exact ⟨d, by simp, ht, rfl⟩
        · exact ⟨x, List.mem_append_left _ hx, h5⟩
    · refine ⟨h2.int, fun p => (h2.iff p).trans ?_⟩
      rw [tk]
      constructor
      · rintro ⟨x, hx, h5⟩; exact ⟨x, List.mem_append_left _ hx, h5⟩
      · rintro ⟨x, hx, h5, h6⟩
        rcases List.mem_append.mp hx with hx | hx
        · exact ⟨x, hx, h5, h6⟩
        · rw [List.mem_singleton.mp hx] at h5; exact absurd h5 ht
  · subst h3
    rw [List.take_length] at h2
    exact hp acc h1 h2
/-! ### i % j, int(i) -/
section
variable {z : Zn} {X : Cx} {a b e : Expr} {ta tb t : TE} {wa wb we : WE} {p pos : Pos}
theorem je_mod (ha : JE z X a ta wa) (hb : JE z X b tb wb) : JE z X (.BinOp a .Mod b pos) (tOp (rI (fun _ j => 0 < j) fun i j => .int (i % j)) ta tb) (wOp (fI (fun _ j => 0 < j) fun i j => .int (i % j)) wa wb) := je_bin op_mod (den_I fun _ _ _ => .int _) ha hb
@[simp] def fToInt : PyData → (PyData → Prop) → Prop := fun d P => ∃ i : Int, d = .int i ∧ P (.int i)
theorem je_toInt (hg : Gl X "int") (hm : X.mg "int" = none) (h : JE z X e t we) (he : starEach [e] X.env = (false, eval e X.env) :: starEach [] X.env := by rfl) (hpl : (backTo pos (starEach [] X.env)).any (·.1) = false := by rfl) :
    JE z X (.Call (.Name "int" p) [e] [] pos) (tCB (fun xs H Q => (∃ i, xs = [.int i] ∧ Q (.int i) H) ∨ ∃ k, xs = [.bl k] ∧ Q (.int (if k then 1 else 0)) H) (tCons t tNil)) (wB1 fToInt we) :=
  je_t1 (p := p) (pos := pos) (x := "int") call_int1 (fun H F x d P Q s r h k => by
    obtain ⟨i, rfl, q⟩ := h
    cases r
    exact .inl ⟨i, rfl, k _ H F _ (Grow.stay s) (.int _) q⟩) hg hm (by decide +kernel) h (by decide) (by decide) he hpl
end
end DD
/-! Rows that ascend: what stands in a sorted list, once each. -/
namespace DD
open PySem PySem.Spec PyProof.Rows L2
open PySem.W (alike dataLt dataLe AllAlike Sortable EachIs)
def Asc (xs : List PyData) : Prop := xs.Pairwise fun a b => dataLt a b = true
theorem lt_trans {a b c : PyData} (h : dataLt a b = true) (g : dataLt b c = true) : dataLt a c = true := (PyProof.Rows.listOrd PyProof.Rows.itemOrd).trans _ _ _ h g
theorem lt_of {x y : PyData} (h : alike x y = true) (e : PyData.eqv x y = false) (g : dataLt y x = false) : dataLt x y = true := by
  cases q : dataLt x y with
  | true => rfl
  | false =>
    have et : PySem.W.keyToks x = PySem.W.keyToks y := (PyProof.Rows.listOrd PyProof.Rows.itemOrd).total _ _ q g
    have := (PySem.W.toks_eqv x y h).2 e [] [.inl 0]
    rw [et, PySem.W.lex_pre] at this
    have irr : PyProof.Rows.lexLt PyProof.Rows.itemOrd (PySem.W.keyToks y) (PySem.W.keyToks y) = false := (PyProof.Rows.listOrd PyProof.Rows.itemOrd).irrefl _
    rw [irr] at this
    cases this
theorem sorted_not_lt {xs : List PyData} : (xs.mergeSort (dataLe false id)).Pairwise fun a b => dataLt b a = false := by
  have := PySem.W.sort_pairwise (PySem.W.sortLe_total (PyProof.Rows.listOrd PyProof.Rows.itemOrd) false fun b : PyData => PySem.W.keyToks (id b)) xs
  refine this.imp fun {a b} h => ?_
  have h : (!dataLt b a) = true := h
  simpa using h
theorem sorted_at {xs : List PyData} {i j : Nat} {a b : PyData} (hi : (xs.mergeSort (dataLe false id))[i]? = some a) (hj : (xs.mergeSort (dataLe false id))[j]? = some b) (h : i < j) : dataLt b a = false := by
  have := List.pairwise_iff_getElem.mp (sorted_not_lt (xs := xs)) i j
  obtain ⟨h1, rfl⟩ := List.getElem?_eq_some_iff.mp hi
  obtain ⟨h2, rfl⟩ := List.getElem?_eq_some_iff.mp hj
  exact this h1 h2 h
theorem Asc.snoc {ys : List PyData} {d : PyData} (h : Asc ys) (g : ∀ z, ys.getLast? = some z → dataLt z d = true) : Asc (ys ++ [d]) := by
  refine List.pairwise_append.mpr ⟨h, List.pairwise_singleton _ _, fun a ha b hb => ?_⟩
  rw [List.mem_singleton.mp hb]
  obtain ⟨init, z, rfl⟩ : ∃ init z, ys = init ++ [z] := by
    have hne : ys ≠ [] := fun e => by subst e; cases ha
    exact ⟨ys.dropLast, ys.getLast hne, (List.dropLast_concat_getLast hne).symm⟩
  have hz := g z (by simp)
  rcases List.mem_append.mp ha with ha | ha
  · exact lt_trans ((List.pairwise_append.mp h).2.2 a ha z (by simp)) hz
  · rw [List.mem_singleton.mp ha]; exact hz
theorem Asc.nil : Asc [] := List.Pairwise.nil
theorem Asc.one (d : PyData) : Asc [d] := List.pairwise_singleton _ _
/-! ### words, pairs and moves with bounds -/
theorem ints_ex {P : Int → Prop} : ∀ {ds : List PyData}, (∀ d ∈ ds, ∃ i, d = .int i ∧ P i) → ∃ ws : List Int, ds = ws.map PyData.int ∧ ∀ i ∈ ws, P i
  | [], _ => ⟨[], rfl, fun _ h => by cases h⟩
  | d :: ds, h => by
    obtain ⟨i, rfl, hi⟩ := h d (by simp)
    obtain ⟨ws, rfl, hw⟩ := ints_ex (ds := ds) fun d hd => h d (List.mem_cons_of_mem _ hd)
    exact ⟨i :: ws, rfl, fun j hj => by
      rcases List.mem_cons.mp hj with rfl | hj
      · exact hi
      · exact hw j hj⟩
def Wb (l : Nat) (m : Int) (d : PyData) : Prop := ∃ ws : List Int, d = .list (ws.map PyData.int) ∧ ws.length ≤ l ∧ ∀ x ∈ ws, 0 ≤ x ∧ x < m
def Pb (l : Nat) (A m : Int) (d : PyData) : Prop := ∃ (i : Int) (ws : List Int), d = .tuple [.int i, .list (ws.map PyData.int)] ∧ (0 ≤ i ∧ i < A) ∧ ws.length ≤ l ∧ ∀ x ∈ ws, 0 ≤ x ∧ x < m
def Mb (l : Nat) (A B m : Int) (d : PyData) : Prop := ∃ (i j : Int) (ws : List Int) (k : Int), d = .tuple [.int i, .int j, .list (ws.map PyData.int), .int k] ∧ (0 ≤ i ∧ i < A) ∧ (0 ≤ j ∧ j < B) ∧ (0 ≤ k ∧ k < A) ∧ ws.length ≤ l ∧ ∀ x ∈ ws, 0 ≤ x ∧ x < m
theorem pb_mk {l : Nat} {A m i : Int} {w : PyData} (h : Wb l m w) (h0 : 0 ≤ i) (h1 : i < A) : Pb l A m (.tuple [.int i, w]) := by
  obtain ⟨ws, rfl, a, b⟩ := h
  exact ⟨i, ws, rfl, ⟨h0, h1⟩, a, b⟩
theorem mb_mk {l : Nat} {A B m i j k : Int} {w : PyData} (h : Wb l m w) (h0 : 0 ≤ i) (h1 : i < A) (h2 : 0 ≤ j) (h3 : j < B) (h4 : 0 ≤ k) (h5 : k < A) : Mb l A B m (.tuple [.int i, .int j, w, .int k]) := by
  obtain ⟨ws, rfl, a, b⟩ := h
  exact ⟨i, j, ws, k, rfl, ⟨h0, h1⟩, ⟨h2, h3⟩, ⟨h4, h5⟩, a, b⟩
theorem Wb.mono {l l' : Nat} {m m' : Int} {d : PyData} (h : Wb l m d) (hl : l ≤ l') (hm : m ≤ m') : Wb l' m' d := by
  obtain ⟨ws, rfl, a, b⟩ := h
  exact ⟨ws, rfl, by omega, fun x hx => ⟨(b x hx).1, by have := (b x hx).2; omega⟩⟩
theorem Pb.mono {l l' : Nat} {A A' m m' : Int} {d : PyData} (h : Pb l A m d) (hl : l ≤ l') (hA : A ≤ A') (hm : m ≤ m') : Pb l' A' m' d := by
  obtain ⟨i, ws, rfl, ⟨i0, i1⟩, a, b⟩ := h
  exact ⟨i, ws, rfl, ⟨i0, by omega⟩, by omega, fun x hx => ⟨(b x hx).1, by have := (b x hx).2; omega⟩⟩
theorem Mb.mono {l l' : Nat} {A A' B B' m m' : Int} {d : PyData} (h : Mb l A B m d) (hl : l ≤ l') (hA : A ≤ A') (hB : B ≤ B') (hm : m ≤ m') : Mb l' A' B' m' d := by
  obtain ⟨i, j, ws, k, rfl, ⟨i0, i1⟩, ⟨j0, j1⟩, ⟨k0, k1⟩, a, b⟩ := h
  exact ⟨i, j, ws, k, rfl, ⟨i0, by omega⟩, ⟨j0, by omega⟩, ⟨k0, by omega⟩, by omega, fun x hx => ⟨(b x hx).1, by have := (b x hx).2; omega⟩⟩
theorem Wb.rev {l : Nat} {m : Int} {ws : List PyData} (h : Wb l m (.list ws)) : Wb l m (.list ws.reverse) := by
  obtain ⟨us, e, a, b⟩ := h
  cases e
  exact ⟨us.reverse, by rw [List.map_reverse], by simpa using a, fun x hx => b x (by simpa using hx)⟩
theorem Wb.sub {l : Nat} {m : Int} {ws vs : List PyData} (h : Wb l m (.list ws)) (hl : vs.length ≤ ws.length) (hs : ∀ x ∈ vs, x ∈ ws) : Wb l m (.list vs) := by
  obtain ⟨us, e, a, b⟩ := h
  cases e
  obtain ⟨ys, rfl, q⟩ := ints_ex (P := fun x => 0 ≤ x ∧ x < m) (ds := vs) fun d hd => by
    obtain ⟨x, hx, rfl⟩ := List.mem_map.mp (hs d hd)
    exact ⟨x, rfl, b x hx⟩
  exact ⟨ys, rfl, by simp at hl; omega, q⟩
theorem Wb.cons {l : Nat} {m s : Int} {ws : List PyData} (h : Wb l m (.list ws)) (h0 : 0 ≤ s) (h1 : s < m) : Wb (l + 1) m (.list (.int s :: ws)) := by
  obtain ⟨us, e, a, b⟩ := h
  cases e
  exact ⟨s :: us, rfl, by simp; omega, fun x hx => by
    rcases List.mem_cons.mp hx with rfl | hx
    · exact ⟨h0, h1⟩
    · exact b x hx⟩
theorem Wb.app {l k : Nat} {m : Int} {ws vs : List PyData} (h : Wb l m (.list ws)) (g : Wb k m (.list vs)) : Wb (l + k) m (.list (ws ++ vs)) := by
  obtain ⟨us, e, a, b⟩ := h
  obtain ⟨ts, e', a', b'⟩ := g
  cases e
  cases e'
  exact ⟨us ++ ts, by rw [List.map_append], by simp; omega, fun x hx => (List.mem_append.mp hx).elim (b x) (b' x)⟩
/-! ### first signs that tell -/
theorem lt_key {x y : PyData} {xs ys : List PyData} (h : alike x y = true) (g : dataLt x y = true) : dataLt (.tuple (x :: xs)) (.tuple (y :: ys)) = true := by
  have e : PyData.eqv x y = false := by
    cases q : PyData.eqv x y with
    | false => rfl
    | true =>
      have := (PySem.W.toks_eqv x y h).1 q
      unfold dataLt at g
      rw [this] at g
      have irr : PyProof.Rows.lexLt PyProof.Rows.itemOrd (PySem.W.keyToks y) (PySem.W.keyToks y) = false := (PyProof.Rows.listOrd PyProof.Rows.itemOrd).irrefl _
      rw [irr] at g
      cases g
  rw [PySem.W.dataLt_tuple, PySem.W.dataLt_all_no h e]
  exact g
theorem lt_next {x : PyData} {xs ys : List PyData} (h : alike x x = true) : dataLt (.tuple (x :: xs)) (.tuple (x :: ys)) = dataLt (.tuple xs) (.tuple ys) := by
  rw [PySem.W.dataLt_tuple, PySem.W.dataLt_all_yes h (PySem.W.eqv_refl_alike x h), PySem.W.dataLt_tuple]
theorem lt_fst {i j : Int} {xs ys : List PyData} (h : i < j) : dataLt (.tuple (.int i :: xs)) (.tuple (.int j :: ys)) = true := lt_key rfl (by rw [PySem.W.dataLt_int]; simpa using h)
end DD
/-! Comprehensions whose rows hang on the rows walked; what ascends stays so. -/
namespace DD
open PySem PySem.Spec PyProof.Rows L2
open PySem.W (alike dataLt dataLe AllAlike Sortable EachIs)
/-- row by row -/
def Rel2 (rel : PyData → PyData → Prop) (ds rs : List PyData) : Prop := rs.length = ds.length ∧ ∀ (i : Nat) (d r : PyData), ds[i]? = some d → rs[i]? = some r → rel d r
theorem Rel2.snoc {rel : PyData → PyData → Prop} {ds rs : List PyData} {d r : PyData} (h : Rel2 rel ds rs) (g : rel d r) : Rel2 rel (ds ++ [d]) (rs ++ [r]) := by
  refine ⟨by simp [h.1], fun i x y hx hy => ?_⟩
  rw [List.getElem?_append] at hx hy
  rw [h.1] at hy
  split at hx
  · rename_i q
    rw [if_pos q] at hy
    exact h.2 i x y hx hy
  · rename_i q
    rw [if_neg q] at hy
    cases e : i - ds.length with
    | zero => rw [e] at hx hy; cases hx; cases hy; exact g
    | succ j => rw [e] at hx; simp at hx
theorem Rel2.mem {rel : PyData → PyData → Prop} {ds rs : List PyData} (h : Rel2 rel ds rs) : ∀ r ∈ rs, ∃ d ∈ ds, rel d r := fun r hr => by
  obtain ⟨i, hi, rfl⟩ := List.getElem_of_mem hr
  have hd : i < ds.length := by have := h.1; omega
  exact ⟨ds[i], List.getElem_mem hd, h.2 i _ _ (List.getElem?_eq_getElem hd) (List.getElem?_eq_getElem hi)⟩
theorem Rel2.asc {rel : PyData → PyData → Prop} {ds rs : List PyData} (h : Rel2 rel ds rs) (a : Asc ds) (m : ∀ d ∈ ds, ∀ e ∈ ds, ∀ r s, rel d r → rel e s → dataLt d e = true → dataLt r s = true) : Asc rs := by
  refine List.pairwise_iff_getElem.mpr fun i j hi hj hij => ?_
  have hi' : i < ds.length := by have := h.1; omega
  have hj' : j < ds.length := by have := h.1; omega
  exact m _ (List.getElem_mem hi') _ (List.getElem_mem hj') _ _ (h.2 i _ _ (List.getElem?_eq_getElem hi') (List.getElem?_eq_getElem hi)) (h.2 j _ _ (List.getElem?_eq_getElem hj') (List.getElem?_eq_getElem hj)) (List.pairwise_iff_getElem.mp a i j hi' hj' hij)
theorem lci_rel {wg : En → PyData → (En → Prop) → Prop} {we' : WE} {vs : List Nat} {en : En} {P : List PyData → Nat → Prop} {ds : List PyData} {n : Nat} (rel : PyData → PyData → Prop) (c : Nat) (hl : ds.length ≤ 100000)
    (hs : ∀ (k : Nat) (d : PyData) (n1 : Nat) (Q : PyData → Nat → Prop), k < ds.length → ds[k]? = some d → n1 ≤ n + k * c → (∀ r n3, rel d r → n3 ≤ n1 + c → Q r n3) → wg (wipeE ⟨en.s, n1⟩ vs) d fun en2 => we' ⟨en2.s, en2.n⟩ Q)
    (hp : ∀ rs n', Rel2 rel ds rs → n' ≤ n + ds.length * c → P rs n') : LcIn wg wYes we' vs en P ds n := by
  refine ⟨fun k acc n1 => Rel2 rel (ds.take k) acc ∧ k ≤ ds.length ∧ n1 ≤ n + k * c, ⟨⟨by simp, fun i d r h => by simp at h⟩, Nat.zero_le _, by omega⟩, fun k d acc n1 hk ⟨h1, h2, h4⟩ => ?_, fun acc n1 ⟨h1, _, h4⟩ => hp acc n1 (by rwa [List.take_length] at h1) h4⟩
  have hkl : k < ds.length := (List.getElem?_eq_some_iff.mp hk).1
  have tk : ds.take (k + 1) = ds.take k ++ [d] := by rw [List.take_add_one, hk]; rfl
  have la : acc.length = k := by rw [h1.1, List.length_take]; omega
  have key := hs k d n1 (fun r n3 => acc.length < 100000 ∧ (Rel2 rel (ds.take (k + 1)) (acc ++ [r]) ∧ k + 1 ≤ ds.length ∧ n3 ≤ n + (k + 1) * c)) hkl hk h4 fun r n3 hr hn => ⟨by omega, by rw [tk]; exact h1.snoc hr, hkl, by rw [Nat.add_mul]; omega⟩
  simpa using key
theorem lci_relF {wg : En → PyData → (En → Prop) → Prop} {wt : WT} {we' : WE} {vs : List Nat} {en : En} {P : List PyData → Nat → Prop} {ds : List PyData} {n : Nat} (t : PyData → Prop) (rel : PyData → PyData → Prop) (c : Nat) (hl : ds.length ≤ 100000)
    (hs : ∀ (k : Nat) (d : PyData) (n1 : Nat) (Q : PyData → Nat → Prop) (R : Nat → Prop), k < ds.length → ds[k]? = some d → n1 ≤ n + k * c → (∀ r n3, t d → rel d r → n3 ≤ n1 + c → Q r n3) → (∀ n3, ¬ t d → n3 ≤ n1 + c → R n3) → wg (wipeE ⟨en.s, n1⟩ vs) d fun en2 => wt en2 fun b n2 => if b = true then we' ⟨en2.s, n2⟩ Q else R n2)
    (hp : ∀ (ds' rs : List PyData) n', ds'.Sublist ds → (∀ d ∈ ds', t d) → (∀ d ∈ ds, t d → d ∈ ds') → Rel2 rel ds' rs → n' ≤ n + ds.length * c → P rs n') : LcIn wg wt we' vs en P ds n := by
  refine ⟨fun k acc n1 => (∃ ds' : List PyData, ds'.Sublist (ds.take k) ∧ (∀ d ∈ ds', t d) ∧ (∀ d ∈ ds.take k, t d → d ∈ ds') ∧ Rel2 rel ds' acc) ∧ k ≤ ds.length ∧ n1 ≤ n + k * c, ⟨⟨[], by simp, by simp, by simp, by simp, fun i d r h => by simp at h⟩, Nat.zero_le _, by omega⟩, fun k d acc n1 hk ⟨⟨ds', s1, s2, s3, h1⟩, h2, h4⟩ => ?_, fun acc n1 ⟨⟨ds', s1, s2, s3, h1⟩, _, h4⟩ => hp ds' acc n1 (by rwa [List.take_length] at s1) s2 (fun d hd => s3 d (by rwa [List.take_length])) h1 h4⟩
  have hkl : k < ds.length := (List.getElem?_eq_some_iff.mp hk).1
  have tk : ds.take (k + 1) = ds.take k ++ [d] := by rw [List.take_add_one, hk]; rfl
  have la : acc.length ≤ k := by
    have := s1.length_le
    rw [h1.1]
    rw [List.length_take] at this
    omega
  refine hs k d n1 _ _ hkl hk h4 (fun r n3 ht hr hn => ⟨by omega, ⟨ds' ++ [d], ?_, ?_, ?_, h1.snoc hr⟩, hkl, by rw [Nat.add_mul]; omega⟩) fun n3 ht hn => ⟨⟨ds', ?_, s2, ?_, h1⟩, hkl, by rw [Nat.add_mul]; omega⟩
  · rw [tk]; exact s1.append (List.Sublist.refl _)
  · intro x hx
    rcases List.mem_append.mp hx with hx | hx
    · exact s2 x hx
    · rw [List.mem_singleton.mp hx]; exact ht
  · intro x hx hx2
    rw [tk] at hx
    rcases List.mem_append.mp hx with hx | hx
    · exact List.mem_append_left _ (s3 x hx hx2)
    · exact List.mem_append_right _ hx
  · rw [tk]; exact s1.trans (List.sublist_append_left _ _)
  · intro x hx hx2
    rw [tk] at hx
    rcases List.mem_append.mp hx with hx | hx
    · exact s3 x hx hx2
    · rw [List.mem_singleton.mp hx] at hx2; exact absurd hx2 ht
/-! ### order, sign by sign -/
theorem lt_inv {i j : Int} {xs ys : List PyData} (h : dataLt (.tuple (.int i :: xs)) (.tuple (.int j :: ys)) = true) : i < j ∨ i = j ∧ dataLt (.tuple xs) (.tuple ys) = true := by
  by_cases e : i = j
  · subst e
    rw [lt_next rfl] at h
    exact .inr ⟨rfl, h⟩
  · have q : PyData.eqv (.int i) (.int j) = false := by simp [PyData.eqv, e]
    rw [PySem.W.dataLt_tuple, PySem.W.dataLt_all_no (rfl) q, PySem.W.dataLt_int] at h
    exact .inl (by simpa using h)
theorem lt_fsts {i j : Int} {xs ys : List PyData} (h : i < j ∨ i = j ∧ dataLt (.tuple xs) (.tuple ys) = true) : dataLt (.tuple (.int i :: xs)) (.tuple (.int j :: ys)) = true := by
  rcases h with h | ⟨rfl, h⟩
  · exact lt_fst h
  · rw [lt_next rfl]; exact h
theorem lt_nil : dataLt (.tuple []) (.tuple []) = false := by decide +kernel
/-- a sign ahead of both words -/
theorem lt_pre {s : PyData} {ws vs : List PyData} {xs ys : List PyData} : dataLt (.tuple (.list (s :: ws) :: xs)) (.tuple (.list (s :: vs) :: ys)) = dataLt (.tuple (.list ws :: xs)) (.tuple (.list vs :: ys)) := by
  rw [PySem.W.dataLt_tuple, PySem.W.dataLt_tuple]
  simp only [PySem.W.toks_all_cons, PySem.W.keyToks, List.cons_append, List.append_assoc]
  rw [PyProof.Rows.lex_self (O := PyProof.Rows.itemOrd), PyProof.Rows.lex_self (O := PyProof.Rows.itemOrd), PyProof.Rows.lex_self (O := PyProof.Rows.itemOrd), PySem.W.lex_pre]
theorem asc_app {xs ys : List PyData} (h : Asc xs) (g : Asc ys) (k : ∀ x ∈ xs, ∀ y ∈ ys, dataLt x y = true) : Asc (xs ++ ys) := List.pairwise_append.mpr ⟨h, g, k⟩
theorem asc_sub {xs ys : List PyData} (h : Asc ys) (s : xs.Sublist ys) : Asc xs := List.Pairwise.sublist s h
/-! ### the keys of a dict, sorted -/
theorem asc_sorted {xs : List PyData} (hn : xs.Nodup) (ha : ∀ x ∈ xs, ∀ y ∈ xs, alike x y = true) (hi : ∀ x ∈ xs, ∀ y ∈ xs, PyData.eqv x y = true → x = y) : Asc (xs.mergeSort (dataLe false id)) := by
  have hp : (xs.mergeSort (dataLe false id)).Nodup := (List.mergeSort_perm xs _).nodup_iff.mpr hn
  have hm : ∀ x ∈ xs.mergeSort (dataLe false id), x ∈ xs := fun x hx => List.mem_mergeSort.mp hx
  refine List.pairwise_iff_getElem.mpr fun i j hi' hj' hij => ?_
  have m1 := hm _ (List.getElem_mem hi')
  have m2 := hm _ (List.getElem_mem hj')
  refine lt_of (ha _ m1 _ m2) ?_ (sorted_at (List.getElem?_eq_getElem hi') (List.getElem?_eq_getElem hj') hij)
  cases q : PyData.eqv (xs.mergeSort (dataLe false id))[i] (xs.mergeSort (dataLe false id))[j] with
  | false => rfl
  | true =>
    have e := hi _ m1 _ m2 q
    exact absurd e (List.pairwise_iff_getElem.mp hp i j hi' hj' hij)
open Classical in
theorem putE_keys (es : List (PyData × PyData)) (k d : PyData) (h : (es.map (·.1)).Nodup) : ((putE es k d).map (·.1)).Nodup := by
  unfold putE
  split
  · have : (es.map fun p => if p.1 = k then (p.1, d) else p).map (·.1) = es.map (·.1) := by
      rw [List.map_map]
      refine List.map_congr_left fun p _ => ?_
      show (if p.1 = k then (p.1, d) else p).1 = p.1
      split <;> rfl
    rw [this]
    exact h
  · rename_i hn
    rw [List.map_append]
    refine List.nodup_append.mpr ⟨h, by simp, fun a ha b hb => ?_⟩
    simp only [List.map_cons, List.map_nil, List.mem_singleton] at hb
    subst hb
    intro e
    subst e
    obtain ⟨p, hp, e⟩ := List.mem_map.mp ha
    exact hn (List.any_eq_true.mpr ⟨p, hp, by simpa using e⟩)
end DD
/-! The Deep layer: walks over dicts. -/
namespace DD
open PySem PySem.Spec PyProof.Rows L2
open Evl (Ex)
theorem rp_kV {F : Hp} : ∀ k : Key, Rp F (kV k) (keyD k)
  | .inl i => .int i
  | .inr x => .str x
theorem yl_keys {F : Hp} {a : Addr} {o : Obj} {kvs : List (Key × V)} {es : List (PyData × PyData)} (h : F a = some (.frz o (.dK kvs))) (r : RpK F kvs es) : Yl (Itk a o kvs) F (es.map (·.1)) where
  go := fun i H e hi => ⟨e _ _ h, by rw [r.length]; simpa using hi⟩
  stop := fun i H e hi => ⟨e _ _ h, by rw [r.length]; simpa using hi⟩
  yld := fun i x F1 H H' e1 e2 y d hd => by
    obtain ⟨rfl, k, v, hk, rfl⟩ := y
    rw [r.keys, List.getElem?_map, hk] at hd
    cases hd
    exact ⟨F1, Grow.refl e2, rp_kV k⟩
theorem yl_keysT {F : Hp} {a : Addr} {o : Obj} {kvs : List (List Key × V)} {es : List (PyData × PyData)} (h : F a = some (.frz o (.dT kvs))) (r : RpT F kvs es) : Yl (Itkt a o kvs) F (es.map (·.1)) where
  go := fun i H e hi => ⟨e _ _ h, by rw [r.length]; simpa using hi⟩
  stop := fun i H e hi => ⟨e _ _ h, by rw [r.length]; simpa using hi⟩
  yld := fun i x F1 H H' e1 e2 y d hd => by
    obtain ⟨rfl, k, v, q, hk, rfl, hq⟩ := y
    rw [r.keys, List.getElem?_map, hk] at hd
    cases hd
    have same : ∀ o', F1 q = some o' → o' = .tup (k.map kV) := fun o' e => by
      have := e2 q o' e
      rw [hq] at this
      exact (Option.some.inj this).symm
    refine ⟨L2.upd F1 q (.tup (k.map kV)), ⟨fun b u _ h => h, fun b h => h, fun b u hb => ?_, fun b u hb => ?_, fun b _ hn => ?_⟩, .tup upd_same (rpA_kV k)⟩
    · by_cases c : b = q
      · subst c; rw [upd_same, same u hb]
      · rw [upd_ne c]; exact hb
    · by_cases c : b = q
      · subst c; rw [upd_same] at hb; cases hb; exact hq
      · rw [upd_ne c] at hb; exact e2 b u hb
    · by_cases c : b = q
      · subst c; exact .inr ⟨_, upd_same⟩
      · rw [upd_ne c]; exact .inl hn
@[simp] def wKeys (w : WE) : WA := fun en P => w en fun d n => ∃ es, d = .dict es ∧ P (es.map (·.1)) n
section
variable {z : Zn} {X : Cx} {tg e : Expr} {t : TE} {we : WE}
theorem ji_keys (h : JE z X e t we) : JI z X tg e (iKeys t) (wKeys we) where
  pi := pi_keys h.pe
  de := fun B σ H F en s P R hw k => by
    refine h.de B σ H F en s _ _ hw fun v H1 F1 d n1 g1 s1 r1 q1 => ?_
    obtain ⟨es, rfl, q⟩ := q1
    cases r1 with
    | @dK a o kvs _ ea r => exact ⟨a, o, rfl, .inl ⟨kvs, g1.sub _ _ ea, k _ H1 F1 _ n1 g1 s1 (yl_keys ea r) q⟩⟩
    | @dT a o kvs _ ea n r => exact ⟨a, o, rfl, .inr ⟨kvs, g1.sub _ _ ea, k _ H1 F1 _ n1 g1 s1 (yl_keysT ea r) q⟩⟩
end
end DD
/-! The Deep layer: None in d.values(). -/
namespace DD
open PySem PySem.Spec PyProof.Rows L2
open Evl (Ex)
def viewObj (d : Addr) : Obj := { cls := .type "dict_values", data := .fields #[.ref d] }
def ViewO (v d : Addr) : HO := .ext fun h => h.get? v = some (viewObj d)
theorem no_contains : typeLookup (.type "dict_values") "__contains__" = pure none := am_miss_of_fast (by first | decide +kernel | rfl)
theorem ci_entry : entryFor table "proto.contains_iter" = some Builtin.«proto.contains_iter» := entryFor_of_tree (by kernel_rfl)
theorem ci_plain : plainId "proto.contains_iter" = true := by decide +kernel
/-- the walk: whether one of the values from the i-th on is x -/
theorem ci_loop {prog : Program} {w : World} {A : Around} {R : Result → Shared → Prop} {it d : Addr} {x : Value} {kvs : List (Key × Value)} {ep : Nat} {bs : List Bool} (hh : A.handled = none) (hid : it ≠ d) (hl : bs.length = kvs.length) :
    ∀ (m i : Nat) (s : Shared), i + m = kvs.length → s.heap.IsValIter it d i kvs.length ep → s.heap.DictAt (mixKind prog w) d kvs ep →
      (∀ (j : Nat) (k : Key) (v : Value) (b : Bool) (h' : Heap), kvs[j]? = some (k, v) → bs[j]? = some b → (∀ c o, c ≠ it → s.heap.get? c = some o → h'.get? c = some o) → SeqAt.EqAt A.in1 { s with heap := h' } v x b) →
      (∀ h', (∀ c o, c ≠ it → s.heap.get? c = some o → h'.get? c = some o) → R (.ok (.ret (.bool ((bs.drop i).any id)))) { s with heap := h' }) →
      codeAny (model prog w) A (.builtin "proto.contains_iter" ⟨[.ref it, x], []⟩) R s
  | 0, i, s, hi, hit, hm, he, hR => by
    refine codeAny_builtin ci_entry ?_
    rw [Around.under_plainId ci_plain _]
    show wpAny _ A.in1 (pyNext (.ref it) >>= _) _ _ s
    refine wpAny_bind (wpAny_pyNext_values_end (A := A.in1) hh hit hm (List.getElem?_eq_none (by omega)) fun h' eb => ?_)
    refine wpAny_bind (wpAny_rule (wpAny_pure ?_))
    have := hR h' fun c o hc e => eb c o hc e
    rw [List.drop_eq_nil_of_le (by omega)] at this
    exact this
  | m + 1, i, s, hi, hit, hm, he, hR => by
    have hlt : i < kvs.length := by omega
    obtain ⟨⟨k, v⟩, hkv⟩ : ∃ p, kvs[i]? = some p := ⟨_, List.getElem?_eq_getElem hlt⟩
    obtain ⟨b, hb⟩ : ∃ b, bs[i]? = some b := ⟨_, List.getElem?_eq_getElem (by omega)⟩
    have db : bs.drop i = b :: bs.drop (i + 1) := by
      obtain ⟨h1, rfl⟩ := List.getElem?_eq_some_iff.mp hb
      exact List.drop_eq_getElem_cons h1
    refine codeAny_builtin ci_entry ?_
    rw [Around.under_plainId ci_plain _]
    show wpAny _ A.in1 (pyNext (.ref it) >>= _) _ _ s
    refine wpAny_bind (wpAny_pyNext_values_item (A := A.in1) hit hm hkv fun h1 hit1 sb => ?_)
    have k1 : ∀ c o, c ≠ it → s.heap.get? c = some o → h1.get? c = some o := fun c o hc e => (sb.2 c hc).trans e
    show wpAny _ A.in1 (eqBool v x >>= _) _ _ _
    refine wpAny_bind (he i k v b h1 hkv hb k1 _ _ _ _ ?_)
    cases b with
    | true =>
      refine wpAny_bind (wpAny_rule (wpAny_pure ?_))
      have := hR h1 k1
      rw [db] at this
      exact this
    | false =>
      have hm1 : h1.DictAt (mixKind prog w) d kvs ep := hm.at fun o e => k1 d o (Ne.symm hid) e
      refine wpAny_pure ⟨plainId_quiet ci_plain _, ci_loop hh hid hl m (i + 1) { s with heap := h1 } (by omega) hit1 hm1 (fun j k' v' b' h' e1 e2 kk => he j k' v' b' h' e1 e2 fun c o hc e => kk c o hc (k1 c o hc e)) fun h' kk => ?_⟩
      have := hR h' fun c o hc e => kk c o hc (k1 c o hc e)
      rw [db] at this
      exact this
/-! ### None in x.values() -/
def VaOk (K : PySem.W.Frag) (H : Hp) (kvs : List (Key × V)) (ds : List PyData) : Prop := Paired (fun (p : Key × V) d => Dp K H p.2 d ∧ d.canLay0 = true) kvs ds
def rNV (K : PySem.W.Frag) : R2 := fun x y H Q => x = .non ∧ ∃ (v d : Addr) (o : Obj) (kvs : List (Key × V)) (ds : List PyData), y = .ref v ∧ H v = some (ViewO v d) ∧ H d = some (.frz o (.dK kvs)) ∧ VaOk K H kvs ds ∧ Q (.bl (ds.any fun d => PyData.eqv d .none)) H
theorem vaOk_get {K : PySem.W.Frag} {H : Hp} : ∀ {kvs : List (Key × V)} {ds : List PyData}, VaOk K H kvs ds → ∀ {vs : List (Key × Value)}, KV kvs vs → ∀ {j : Nat} {k : Key} {u : Value}, vs[j]? = some (k, u) → ∃ x d, ds[j]? = some d ∧ RelV x u ∧ Dp K H x d ∧ d.canLay0 = true
  | _, _, .nil, _, .nil, j, k, u, h => by simp at h
  | _, _, .cons a r, _, .cons b r', j, k, u, h => by
    cases j with
    | zero => simp at h; subst h; exact ⟨_, _, rfl, b.2, a.1, a.2⟩
    | succ j => exact vaOk_get r r' (j := j) (by simpa using h)
theorem op_inNV {X : Cx} (hc : X.calm = true) (hu : X.A.units + 1 < cLine) : OpR X (compareOp .In) (rNV X.K) := by
  intro pins s σ H x y v u Q I rx ry h
  obtain ⟨rfl, vw, d, o, kvs, ds, rfl, hv, hd, va, q⟩ := h
  cases (show u = Value.ref vw from ry)
  cases (show v = Value.none from rx)
  obtain ⟨hs, hgd, hx, es, ep, vs, hdt, hsz, kv, hm⟩ := I.frzK hd
  have gv : s.heap.get? vw = some (viewObj d) := (show ObjOk X.prog X.w H s.heap vw (ViewO vw d) from I.hok vw _ hv).1
  have hl : ds.length = vs.length := (Paired.length va).symm.trans (Paired.length kv)
  have tI : s.TypeIs (.ref vw) "dict_values" := ⟨_, gv, rfl⟩
  have hid : s.heap.objs.size ≠ d := fun e => Nat.lt_irrefl _ (e ▸ Heap.lt_size hgd)
  show wpAny _ _ (do return Value.bool (← contains (.ref vw) .none)) _ X.xe s
  refine wpAny_bind ?_
  unfold contains
  refine wpAny_holding ?_
  rw [stdlibNamesSay?_of_typeIs tI]
  refine wpAny_bind (wpAny_specialOf tI no_contains ?_)
  show wpAny _ _ (if ((none : Option Value) == some Value.none) = true then _ else _) _ X.xe s
  rw [if_neg (by decide)]
  refine wpAny_bind (wpAny_callSpecialUnlessNone?_none tI no_contains ?_)
  refine wpAny_bind (wpAny_rule ?_)
  refine wpAny_bind (wpAny_tryCatch (wpAny_pyIter_values (d := d) (knd := mixKind X.prog X.w) ⟨_, gv, rfl, rfl⟩ hm ?_))
  refine wpAny_bind (wpAny_runValue ?_)
  have itn : ∀ c o', s.heap.get? c = some o' → c ≠ s.heap.objs.size := fun c o' e c' => Nat.lt_irrefl _ (c' ▸ Heap.lt_size e)
  have J : ∀ h' : Heap, (∀ c o', c ≠ s.heap.objs.size → (s.heap.push { cls := .type "dict_valueiterator", data := .fields #[.ref d, .int 0 0, .int vs.length 0, .int ep 0] }).get? c = some o' → h'.get? c = some o') → Inv X pins σ H { s with heap := h' } := fun h' k =>
    I.kept (t' := s.toks) fun b ob e => k b ob (itn b ob e) (Heap.get?_push_of_some _ e)
  refine ci_loop (kvs := vs) (ep := ep) (d := d) (bs := ds.map fun d => PyData.eqv d .none) (I.ok.hd hc) hid (by rw [List.length_map]; exact hl) vs.length 0 _ (Nat.zero_add _) ⟨_, Heap.get?_push_size _ rfl, rfl, rfl⟩ (hm.push _) (fun j k v b h' e1 e2 kk => ?_) (fun h' kk => ?_)
  · obtain ⟨x, dd, e3, rv, dp, cl⟩ := vaOk_get va kv e1
    rw [List.getElem?_map, e3] at e2
    cases e2
    obtain ⟨as, r1⟩ := Dp.reads (J h' kk) dd x v dp rv
    exact SeqAt.eqAt_reads dd .none _ _ v .none as [] r1 .none cl rfl (by
      have : min dd.depth PyData.none.depth = 0 := by simp [PyData.depth]
      rw [this]; simpa [Around.in1] using hu)
  · show wpAny _ _ _ _ _ _
    refine wpAny_pure (wpAny_pure ⟨.bl _, H, J h' kk, rfl, ?_⟩)
    rw [List.drop_zero, List.any_map]
    exact q
def tVals (te : TE) : TE := fun σ H Q => te σ H fun x H1 => ∃ (d : Addr) (o : Obj) (kvs : List (Key × V)), x = .ref d ∧ H1 d = some (.frz o (.dK kvs)) ∧ ∀ v, H1 v = none → Q (.ref v) (L2.upd H1 v (ViewO v d))
section
variable {z : Zn} {X : Cx} {e : Expr} {t : TE} {we : WE} {pos apos cpos : Pos} {k : Nat}
theorem pe_values (he : PE X e t) (hbase : attributeBase e "values" X.env (eval e X.env) = eval e X.env := by rfl) (hline : (apos.endLine == cpos.line) = true := by rfl) : PE X (.Call (.Attribute e "values" apos) [] [] cpos) (tVals t) := ⟨fun pins s σ H Q I h => by
  refine wpAny_Call_method (T := "dict") (id := "dict.values") hbase rfl hline F.plainAttrs_dict F.slot_dict_values F.type_dict_values (thn (he.run pins s σ H _ I h) fun u s1 ⟨x, H1, I1, rx, d, o, kvs, ex, hd, q⟩ => ?_)
  subst ex
  obtain rfl : u = Value.ref d := rx
  obtain ⟨hs, hgd, hx, es, ep, vs, hdt, hsz, kv, hm⟩ := I1.frzK hd
  refine ⟨hm.dictOf.typeIs, hm.dictOf.mapOf.noDict, ?_⟩
  have I2 : Inv X pins σ (L2.upd H1 s1.heap.objs.size (ViewO s1.heap.objs.size d)) { s1 with heap := s1.heap.push (viewObj d) } := I1.laid (t' := s1.toks) (fun b ob q => Heap.get?_push_of_some _ q) (Nat.le_refl _) ⟨Heap.get?_push_size _ rfl, ⟨_, Heap.get?_push_size _ rfl⟩, fun h1 h2 f k => k _ f⟩
  show wpAny _ _ (callWith cpos (.builtin "dict.values") [.ref d] [] []) _ X.xe s1
  exact method_meetsIn F.slot_dict_values F.entry_dict_values rfl (PySem.evalArgs_none ⟨rfl, hm.dictOf.typeIs, F.args_dict_values_1 _, _, meets_dict_values (mixKind X.prog X.w) d hs, ⟨vs, hm.dictOf⟩, ⟨.ref s1.heap.objs.size, _, I2, rfl, q _ (I1.hok.fresh (Nat.le_refl _))⟩⟩)⟩
@[simp] def wNoneIn (we : WE) : WT := fun en P => we en fun d n => ∃ es, d = .dict es ∧ es.all (fun p => keyA p.1 && okD p.2) = true ∧ P (es.any fun p => PyData.eqv p.2 .none) n
theorem vaOk_rp {K : PySem.W.Frag} {F H : Hp} (e : Ex F H) : ∀ {kvs : List (Key × V)} {es : List (PyData × PyData)}, RpK F kvs es → es.all (fun p => keyA p.1 && okD p.2) = true → VaOk K H kvs (es.map (·.2))
  | _, _, .nil, _ => .nil
  | _, _, .cons r rs, h => by
    rw [List.all_cons, Bool.and_eq_true, Bool.and_eq_true] at h
    exact .cons ⟨r.dp e (okD_flat h.1.2).1, SeqAt.canLay_of_shaped (okD_flat h.1.2).2⟩ (vaOk_rp e rs h.2)
theorem jt_noneIn {j} {p0 : Pos} (hr : Room k X.A) (h : JE z X e t we) (hc : X.calm = true := by rfl) (hbase : attributeBase e "values" X.env (eval e X.env) = eval e X.env := by rfl) (hline : (apos.endLine == cpos.line) = true := by rfl)
    (hm : behindInMarks .In (.Call (.Attribute e "values" apos) [] [] cpos) = false := by rfl) :
    JT z X (.Compare (.Constant .none j p0) [.In] [.Call (.Attribute e "values" apos) [] [] cpos] pos) (tTest (tOp (kR rNV) (tC .non) (tVals t))) (wNoneIn we) where
  pt := pt_cmpR (kR_ok (op_inNV hc (by have := hr.units; omega))) pe_non (pe_values h.pe hbase hline) hm
  de := fun B σ H F en s P Q hw kk => by
    refine h.de B σ H F en s _ _ hw fun v H1 F1 d n1 g1 s1 r1 q1 => ?_
    obtain ⟨es, rfl, hk, q⟩ := q1
    cases r1 with
    | @dT a o kvs _ ha hne r =>
      cases r with
      | nil => exact absurd rfl hne
      | cons h1 r1 => simp [keyA] at hk
    | @dK a o kvs _ ha r =>
      refine ⟨a, o, kvs, rfl, g1.sub _ _ ha, fun vw hv K => ?_⟩
      have g2 := Grow.fresh (z := z) (o := ViewO vw a) g1.sub hv
      refine ⟨rfl, vw, a, o, kvs, es.map (·.2), rfl, upd_same, (g2.sub _ _ ha), vaOk_rp g2.sub r hk, _, rfl, kk _ _ _ n1 (g1.trans g2) (s1.ex fun b u hb => ?_) ?_⟩
      · rw [upd_ne (ne_of_none hb hv)]; exact hb
      · rw [List.any_map]; exact q
end
end DD
/-! The Deep layer: list(d.items()) by a dict's entries, whatever the keys. -/
namespace DD
open PySem PySem.Spec PyProof.Rows L2
open Evl (Ex)
abbrev itO (x0 : Value) (f : Bool) (d : Addr) (i n ep : Nat) (ok ov : Value) : Obj :=
  { cls := .type "dict_itemiterator", dict := none, data := .fields #[x0, .bool f, .ref d, .int i 0, .int n 0, .int ep 0, ok, ov], slots := #[] }
abbrev twoO (a b : Value) : Obj := { cls := .type "tuple", data := .seq #[a, b] }
section
variable {prog : Program} {w : World} {A : Around} {E : Value → Shared → Prop} {s : Shared} {it d : Addr} {i ep : Nat} {es : Array DictEntry} {od : Obj} {x0 ok ov : Value} {f : Bool} {Q : Option Value → Shared → Prop}
theorem own_it : Builtin.Dict_items.ownsTuple "dict_itemiterator" = true := by decide
theorem nx_alive {a : Addr} {o : Obj} {Q : Option Obj → Shared → Prop} (ho : s.heap.get? a = some o) (h : Q (some o) s) : wpAny (model prog w) A (loadIfAlive a) Q E s := fun _ _ _ => by
  show Q (s.heap.get? a) s
  rw [ho]; exact h
/-- a part of the walk: one field is put -/
theorem nx_put {h h1 : Heap} {a b : Addr} {o : Obj} (x : Heap.SameBut b h h1) (ne : a ≠ b) (e : h.get? a = some o) : h1.get? a = some o := x.extBut a o ne e
theorem nx_item {en : DictEntry} (hit : s.heap.get? it = some (itO x0 f d i es.size ep ok ov)) (h0 : x0 = .none ∨ ∃ (a : Addr) (oa : Obj), x0 = rawInt a ∧ a ≠ it ∧ s.heap.get? a = some oa)
    (hod : s.heap.get? d = some od) (hdd : od.data = .dict es ep) (hx : es[i]? = some en)
    (hQ : ∀ x1 f1 ok1 ov1 h', h'.get? it = some (itO x1 f1 d (i + 1) es.size ep ok1 ov1) → (x1 = x0 ∧ x0 ≠ .none ∨ x1 = rawInt s.heap.objs.size) → h'.get? s.heap.objs.size = some (twoO en.key en.val) → h'.objs.size = s.heap.objs.size + 1 →
      (∀ b o, b ≠ it → s.heap.get? b = some o → h'.get? b = some o) → Q (some (.ref s.heap.objs.size)) { s with heap := h' }) : wpAny (model prog w) A (pyNext (.ref it)) Q E s := by
  obtain ⟨hp, g, dr, tk, os⟩ := s
  have ty : ∀ {h : Heap} {x0 f i ok ov}, h.get? it = some (itO x0 f d i es.size ep ok ov) → Shared.TypeIs ⟨h, g, dr, tk, os⟩ (.ref it) "dict_itemiterator" := fun e => ⟨_, e, rfl⟩
  unfold pyNext
  refine wpAny_bind (wpAny_attempt (wpAny_callSpecial?_slot (ty hit) F.slot_dict_itemiterator_next (wpAny_call_entry F.slot_dict_itemiterator_next (ty hit) F.entry_dict_itemiterator_next ?_ (F.args_dict_itemiterator_next_1 _))))
  refine wpAny_bind (wpAny_pure (wpAny_bind (wpAny_bind ?_)))
  first | refine wpAny_bind (wpAny_typeNameOfWhole_itemiter (ty hit) (wpAny_pure (wpAny_bind (wpAny_fieldsOf hit rfl ?_)))) | refine wpAny_bind (wpAny_typeNameOf_itemiter (ty hit) (wpAny_pure (wpAny_bind (wpAny_fieldsOf hit rfl ?_))))
  simp only [own_it, if_true]
  show wpAny _ _ (if (Value.ref d == .none) = true then _ else _) _ _ _
  rw [if_neg (by exact Bool.false_ne_true)]
  refine wpAny_bind (wpAny_pure (wpAny_bind (wpAny_dictEntries hod hdd ?_)))
  rw [if_neg (by simp)]
  refine wpAny_bind (wpAny_pure (wpAny_bind (wpAny_dictEpoch hod hdd ?_)))
  rw [if_neg (by simp)]
  refine wpAny_pure ?_
  simp only [show ¬ ((i : Int) < 0) from by omega, if_false, Int.toNat_natCast, hx]
  refine wpAny_bind ?_
  first | refine wpAny_bind (wpAny_typeNameOfWhole_itemiter (ty hit) (wpAny_pure (wpAny_bind (wpAny_isOneOf_itemiter (ty hit) ?_)))) | refine wpAny_bind (wpAny_typeNameOf_itemiter (ty hit) (wpAny_pure (wpAny_bind (wpAny_isOneOf_itemiter (ty hit) ?_))))
  show wpAny _ _ (setField (.ref it) 3 (rawInt ((i : Int) + 1)) >>= _) _ _ _
  refine wpAny_bind (wpAny_setField_rec hit (by simp) fun h1 e1 s1 => ?_)
  replace e1 : h1.get? it = some (itO x0 f d (i + 1) es.size ep ok ov) := by
    rw [itO, show ((i + 1 : Nat) : Int) = (i : Int) + 1 from by omega]
    simpa [rawInt] using e1
  replace s1 : Heap.SameBut it hp h1 := s1
  refine wpAny_bind (wpAny_holding (wpAny_bind (wpAny_isOneOf_itemiter (ty e1) (wpAny_bind (wpAny_isOneOf_itemiter (ty e1) ?_)))))
  show wpAny _ _ (Builtin.Dict_items.pairFromOwner (.ref it) 6 en.key en.val) _ _ _
  unfold Builtin.Dict_items.pairFromOwner
  refine wpAny_bind (wpAny_newTuple ?_)
  have z1 : h1.objs.size = hp.objs.size := s1.1
  have lt : it < hp.objs.size := Heap.lt_size hit
  have e2 : (h1.push (twoO en.key en.val)).get? it = some (itO x0 f d (i + 1) es.size ep ok ov) := Heap.get?_push_of_some _ e1
  have t2 : (h1.push (twoO en.key en.val)).get? hp.objs.size = some (twoO en.key en.val) := by rw [← z1]; exact Heap.get?_push_size _ rfl
  have z2 : (h1.push (twoO en.key en.val)).objs.size = hp.objs.size + 1 := by rw [Heap.size_push, z1]
  have k2 : ∀ b o, b ≠ it → hp.get? b = some o → (h1.push (twoO en.key en.val)).get? b = some o := fun b o hb e => Heap.get?_push_of_some _ (nx_put s1 hb e)
  rw [z1]
  show wpAny _ _ _ _ _ ⟨h1.push (twoO en.key en.val), g, dr, tk, os⟩
  generalize h1.push (twoO en.key en.val) = h2 at e2 t2 z2 k2
  have fin : ∀ x1 f1 ok1 ov1 h3, h3.get? it = some (itO x1 f1 d (i + 1) es.size ep ok1 ov1) → (x1 = x0 ∧ x0 ≠ .none ∨ x1 = rawInt hp.objs.size) → Heap.SameBut it h2 h3 → Q (some (.ref hp.objs.size)) ⟨h3, g, dr, tk, os⟩ := fun x1 f1 ok1 ov1 h3 e3 q s3 =>
    hQ x1 f1 ok1 ov1 h3 e3 q (nx_put s3 (Nat.ne_of_gt lt) t2) (s3.1.trans z2) fun b o hb e => nx_put s3 hb (k2 b o hb e)
  refine wpAny_bind ?_
  unfold Builtin.Dict_items.ownedTupleIsFree
  rcases h0 with rfl | ⟨a, oa, rfl, ne, ha⟩
  · refine wpAny_bind (wpAny_field e2 rfl (x := .none) rfl (wpAny_pure ?_))
    simp only [if_true]
    refine wpAny_bind (wpAny_field e2 rfl (x := ok) rfl (wpAny_bind (wpAny_field e2 rfl (x := ov) rfl ?_)))
    refine wpAny_bind (wpAny_setField_rec e2 (by simp) fun h3 e3 s3 => ?_)
    replace e3 : h3.get? it = some (itO .none f d (i + 1) es.size ep en.key ov) := e3
    refine wpAny_bind (wpAny_setField_rec e3 (by simp) fun h4 e4 s4 => ?_)
    replace e4 : h4.get? it = some (itO .none f d (i + 1) es.size ep en.key en.val) := e4
    refine wpAny_bind (wpAny_setField_rec e4 (by simp) fun h5 e5 s5 => ?_)
    replace e5 : h5.get? it = some (itO (rawInt hp.objs.size) f d (i + 1) es.size ep en.key en.val) := e5
    refine wpAny_bind (wpAny_setField_rec e5 (by simp) fun h6 e6 s6 => ?_)
    replace e6 : h6.get? it = some (itO (rawInt hp.objs.size) false d (i + 1) es.size ep en.key en.val) := e6
    replace s3 : Heap.SameBut it h2 h3 := s3
    replace s4 : Heap.SameBut it h3 h4 := s4
    replace s5 : Heap.SameBut it h4 h5 := s5
    replace s6 : Heap.SameBut it h5 h6 := s6
    exact wpAny_bind (wpAny_letGo (wpAny_pure (wpAny_pure ⟨_, rfl, wpAny_pure (fin _ _ _ _ h6 e6 (.inr rfl) (s3.trans (s4.trans (s5.trans s6))))⟩)))
  · refine wpAny_bind (wpAny_field e2 rfl (x := rawInt a) rfl ?_)
    show wpAny _ _ (loadIfAlive ((a : Int).toNat) >>= _) _ _ _
    rw [Int.toNat_natCast]
    refine wpAny_bind (nx_alive (k2 a oa ne ha) ?_)
    simp only [Option.isNone_some, Bool.false_eq_true, if_false]
    refine wpAny_bind (wpAny_field e2 rfl (x := .bool f) rfl ?_)
    cases f with
    | true =>
      rw [if_neg (by exact Bool.false_ne_true)]
      refine wpAny_pure ?_
      simp only [Bool.false_eq_true, if_false]
      exact wpAny_pure (wpAny_pure ⟨_, rfl, wpAny_pure (fin _ _ _ _ h2 e2 (.inl ⟨rfl, by simp [rawInt]⟩) (Heap.SameBut.refl _ _))⟩)
    | false =>
      rw [if_pos (by rfl)]
      refine wpAny_bind (wpAny_setField_rec e2 (by simp) fun h3 e3 s3 => ?_)
      replace e3 : h3.get? it = some (itO (rawInt a) true d (i + 1) es.size ep ok ov) := e3
      refine wpAny_pure ?_
      simp only [Bool.false_eq_true, if_false]
      exact wpAny_pure (wpAny_pure ⟨_, rfl, wpAny_pure (fin _ _ _ _ h3 e3 (.inl ⟨rfl, by simp [rawInt]⟩) s3)⟩)
theorem nx_done (hh : A.handled = none) (hit : s.heap.get? it = some (itO x0 f d i es.size ep ok ov)) (hod : s.heap.get? d = some od) (hdd : od.data = .dict es ep) (hx : es[i]? = none)
    (hQ : ∀ h', Heap.ExtBut it s.heap h' → Q none { s with heap := h' }) : wpAny (model prog w) A (pyNext (.ref it)) Q E s := by
  have ty : s.TypeIs (.ref it) "dict_itemiterator" := ⟨_, hit, rfl⟩
  unfold pyNext
  refine wpAny_bind (wpAny_attempt (wpAny_callSpecial?_slot ty F.slot_dict_itemiterator_next (wpAny_call_entry F.slot_dict_itemiterator_next ty F.entry_dict_itemiterator_next ?_ (F.args_dict_itemiterator_next_1 _))))
  refine wpAny_bind (wpAny_pure (wpAny_bind (wpAny_bind ?_)))
  first | refine wpAny_bind (wpAny_typeNameOfWhole_itemiter ty (wpAny_pure (wpAny_bind (wpAny_fieldsOf hit rfl ?_)))) | refine wpAny_bind (wpAny_typeNameOf_itemiter ty (wpAny_pure (wpAny_bind (wpAny_fieldsOf hit rfl ?_))))
  simp only [own_it, if_true]
  show wpAny _ _ (if (Value.ref d == .none) = true then _ else _) _ _ _
  rw [if_neg (by exact Bool.false_ne_true)]
  refine wpAny_bind (wpAny_pure (wpAny_bind (wpAny_dictEntries hod hdd ?_)))
  rw [if_neg (by simp)]
  refine wpAny_bind (wpAny_pure (wpAny_bind (wpAny_dictEpoch hod hdd ?_)))
  rw [if_neg (by simp)]
  refine wpAny_pure ?_
  simp only [show ¬ ((i : Int) < 0) from by omega, if_false, Int.toNat_natCast, hx]
  refine wpAny_bind ?_
  first | refine wpAny_bind (wpAny_typeNameOfWhole_itemiter ty (wpAny_pure ?_)) | refine wpAny_bind (wpAny_typeNameOf_itemiter ty (wpAny_pure ?_))
  show wpAny _ _ (setField (.ref it) 2 .none >>= _) _ _ _
  refine wpAny_bind (wpAny_setField hit rfl (by simp) (wpAny_bind ?_))
  simp only [newExc, newTuple]
  refine wpAny_bind (wpAny_newObj_type ?_ (by size_fits))
  refine wpAny_bind (m := firstArgMember _ _) (wpAny_of_eq (a := Value.none) (by first | rfl | (simp only [firstArgMember]; rfl)) (wpAny_newObj_type ?_ (by size_fits)))
  simp only [raiseNew]
  refine wpAny_bind (wpAny_handled ?_)
  rw [show A.in1.handled = none from hh]
  refine wpAny_bind (wpAny_pure (wpAny_throw (by
    refine wpAny_bind (wpAny_isInstance (T := "StopIteration") (b := true) ⟨_, Heap.get?_push_size _ rfl, rfl⟩ isSubtype_stop (wpAny_pure ?_))
    exact hQ _ (((Heap.SameBut.update ..).extBut.push _).push _))))
end
/-- the iterator at place i, S the list that is filled -/
def ItSt (h : Heap) (it d S : Addr) (i n ep : Nat) : Prop := ∃ x0 f ok ov, h.get? it = some (itO x0 f d i n ep ok ov) ∧ (x0 = .none ∨ ∃ (a : Addr) (oa : Obj), x0 = rawInt a ∧ a ≠ it ∧ a ≠ S ∧ h.get? a = some oa)
theorem ItSt.keep {h h' : Heap} {it d S : Addr} {i n ep : Nat} (x : ItSt h it d S i n ep) (hk : ∀ b o, b ≠ S → h.get? b = some o → h'.get? b = some o) (hI : it ≠ S) : ItSt h' it d S i n ep := by
  obtain ⟨x0, f, ok, ov, e, q⟩ := x
  refine ⟨x0, f, ok, ov, hk _ _ hI e, ?_⟩
  rcases q with q | ⟨a, oa, q1, q2, q3, q4⟩
  · exact .inl q
  · exact .inr ⟨a, oa, q1, q2, q3, hk _ _ q3 q4⟩
/-- the tuples that stand in the list: the entries, in order -/
structure Twos (es : Array DictEntry) (lo : Addr) (h : Heap) (as : List Addr) : Prop where
  rise : as.Pairwise (· < ·)
  above : ∀ a ∈ as, lo < a
  at_ : ∀ (j : Nat) (a : Addr), as[j]? = some a → ∃ en, es[j]? = some en ∧ h.get? a = some (twoO en.key en.val)
section
variable {prog : Program} {w : World} {A : Around} {s : Shared} {R : Result → Shared → Prop} {es : Array DictEntry} {ep : Nat} {od : Obj} {S I d r : Addr}
theorem fill_loop (hh : A.handled = none) (hSI : S < I) (hSd : d ≠ S) (hId : d ≠ I) (hn : es.size ≤ sizeLine) (hdd : od.data = .dict es ep) (res : Value) {h0 : Heap}
    (hR : ∀ h' acc c as, (∀ b o, b ≠ S → b ≠ I → h0.get? b = some o → h'.get? b = some o) → h'.get? S = some { cls := .type "list", data := .seq acc c } → as.length = es.size → Twos es I h' as →
      acc.toList = as.map Value.ref → R (.ok (.ret res)) { s with heap := h' }) :
    ∀ (m i : Nat) (h : Heap) (c : Nat) (acc : Array Value) (as : List Addr), i + m = es.size → ItSt h I d S i es.size ep → h.get? d = some od → (∀ b o, b ≠ S → b ≠ I → h0.get? b = some o → h.get? b = some o) →
      h.get? S = some { cls := .type "list", data := .seq acc c } → acc.toList = as.map Value.ref → as.length = i → Twos es I h as →
      codeAny (model prog w) A (.builtin "list.extend.loop" ⟨[.ref S, .ref I, res], []⟩) R { s with heap := h }
  | 0, i, h, c, acc, as, hm, hst, hod, hk, hS, ha, hl, hT => by
    obtain ⟨x0, f, ok, ov, hit, q⟩ := hst
    refine codeAny_builtin PySem.F.entry_extend_loop ?_
    rw [Around.under_plainId PySem.F.plain_extend_loop _]
    show wpAny _ A.in1 (pyNext (.ref I) >>= _) _ _ _
    refine wpAny_bind (nx_done (s := { s with heap := h }) (A := A.in1) hh hit hod hdd (Array.getElem?_eq_none (by omega)) fun h' he => ?_)
    refine wpAny_pure (hR h' acc c as (fun b o h1 h2 e => he b o h2 (hk b o h1 h2 e)) (he S _ (Nat.ne_of_lt hSI) hS) (by omega) ⟨hT.rise, hT.above, fun j a hj => ?_⟩ ha)
    obtain ⟨en, e1, e2⟩ := hT.at_ j a hj
    exact ⟨en, e1, he a _ (Nat.ne_of_gt (hT.above a (List.mem_of_getElem? hj))) e2⟩
  | m + 1, i, h, c, acc, as, hm, hst, hod, hk, hS, ha, hl, hT => by
    obtain ⟨x0, f, ok, ov, hit, q⟩ := hst
    have hne : S ≠ I := Nat.ne_of_lt hSI
    have hlt : i < es.size := by omega
    have hx : es[i]? = some es[i] := by simp [hlt]
    have hsz : acc.size = i := by rw [← Array.length_toList, ha, List.length_map, hl]
    have hSl : S < h.objs.size := Heap.lt_size hS
    have hIl : I < h.objs.size := Heap.lt_size hit
    refine codeAny_builtin PySem.F.entry_extend_loop ?_
    rw [Around.under_plainId PySem.F.plain_extend_loop _]
    show wpAny _ A.in1 (pyNext (.ref I) >>= _) _ _ _
    refine wpAny_bind (nx_item (s := { s with heap := h }) hit (q.imp id fun ⟨a, oa, q1, q2, q3, q4⟩ => ⟨a, oa, q1, q2, q4⟩) hod hdd hx fun x1 f1 ok1 ov1 h' e1 e2 e3 e4 kp => ?_)
    have up : ∀ b o, b ≠ S → h'.get? b = some o → (h'.update S (Obj.mapSeq (·.push (Value.ref h.objs.size)))).get? b = some o := fun b o hb e => (Heap.get?_update_other _ _ (Ne.symm hb)).trans e
    have kS := kp S _ hne hS
    have st' : ItSt h' I d S (i + 1) es.size ep := by
      refine ⟨x1, f1, ok1, ov1, e1, ?_⟩
      rcases e2 with ⟨rfl, nn⟩ | rfl
      · rcases q with q | ⟨a, oa, q1, q2, q3, q4⟩
        · exact absurd q nn
        · exact .inr ⟨a, oa, q1, q2, q3, kp a oa q2 q4⟩
      · exact .inr ⟨_, _, rfl, Nat.ne_of_gt hIl, Nat.ne_of_gt hSl, e3⟩
    show wpAny _ A.in1 (updateSeq S (·.push (Value.ref h.objs.size)) >>= _) _ _ _
    refine wpAny_bind (wpAny_updateSeq kS rfl (wpAny_pure ⟨plainId_quiet PySem.F.plain_extend_loop _, fill_loop hh hSI hSd hId hn hdd res hR m (i + 1) _ _ (acc.push (Value.ref h.objs.size)) (as ++ [h.objs.size]) (by omega) (st'.keep up (Ne.symm hne)) (up d _ hSd (kp d _ hId hod))
      (fun b o h1 h2 e => up b o h1 (kp b o h2 (hk b o h1 h2 e))) (Heap.get?_update_self _ kS rfl) (by rw [Array.toList_push, ha, List.map_append]; rfl) (by rw [List.length_append, hl]; rfl) ⟨?_, ?_, ?_⟩⟩) (by rw [hsz]; omega) (by show (acc.push (Value.ref h.objs.size)).size ≤ sizeLine + 1; rw [Array.size_push, hsz]; omega))
    · refine List.pairwise_append.mpr ⟨hT.rise, List.pairwise_singleton _ _, fun a ha' b hb => ?_⟩
      obtain ⟨j, hj⟩ := List.mem_iff_getElem?.mp ha'
      obtain ⟨en, _, e⟩ := hT.at_ j a hj
      rw [List.mem_singleton.mp hb]
      exact Heap.lt_size e
    · intro a ha'
      rcases List.mem_append.mp ha' with ha' | ha'
      · exact hT.above a ha'
      · rw [List.mem_singleton.mp ha']; exact hIl
    · intro j b hj
      rcases Nat.lt_or_ge j as.length with h1 | h1
      · rw [List.getElem?_append_left h1] at hj
        obtain ⟨en, q1, q2⟩ := hT.at_ j b hj
        have hb := hT.above b (List.mem_of_getElem? hj)
        exact ⟨en, q1, up b _ (Nat.ne_of_gt (Nat.lt_trans hSI hb)) (kp b _ (Nat.ne_of_gt hb) q2)⟩
      · rw [List.getElem?_append_right h1] at hj
        have hj0 : j - as.length = 0 := by
          rcases Nat.eq_zero_or_pos (j - as.length) with z | z
          · exact z
          · rw [List.getElem?_eq_none (by simp; omega)] at hj; cases hj
        rw [hj0] at hj
        have hb : h.objs.size = b := by simpa using hj
        have hji : j = i := by omega
        subst hb hji
        exact ⟨_, hx, up _ _ (Nat.ne_of_gt hSl) e3⟩
theorem iter_items (hv : s.heap.IsItemsView r d) (hod : s.heap.get? d = some od) (hdd : od.data = .dict es ep) {Q : Value → Shared → Prop} {E : Value → Shared → Prop}
    (hQ : Q (.ref s.heap.objs.size) { s with heap := s.heap.push (itO .none false d 0 es.size ep .none .none) }) : wpAny (model prog w) A (pyIter (.ref r)) Q E s := by
  obtain ⟨ov, hov, hcv, hdv⟩ := id hv
  refine wpAny_pyIter_slot hv.typeIs F.slot_dict_items_iter (wpAny_call_entry F.slot_dict_items_iter hv.typeIs F.entry_dict_items_iter ?_ (F.args_dict_items_iter_1 _))
  unfold Builtin.«dict_items.__iter__»
  refine wpAny_bind (wpAny_pure (wpAny_bind ?_))
  unfold Builtin.Dict_items.dictOf
  refine wpAny_bind (wpAny_field hov hdv (x := .ref d) rfl (wpAny_pure (wpAny_bind ?_)))
  unfold Builtin.Dict_items.newIterator
  refine wpAny_bind (wpAny_dictEntries hod hdd (wpAny_bind (wpAny_dictEpoch hod hdd ?_)))
  simp only [own_it, if_true]
  refine wpAny_newObj_type (wpAny_pure ⟨_, rfl, "dict_itemiterator", _, ⟨_, Heap.get?_push_size _ rfl, rfl⟩, F.slot_dict_itemiterator_next.lookup, ?_⟩) (by simp [sizeOk, Builtin.Dict_items.ownedTupleFields, sizeLine_eq])
  simpa [rawInt, itO, Builtin.Dict_items.ownedTupleFields] using hQ
theorem fill_items (hh : A.handled = none) (hv : s.heap.IsItemsView r d) (hod : s.heap.get? d = some od) (hdd : od.data = .dict es ep) (hSr : S ≠ r) (hSd : d ≠ S) (res : Value) (c0 : Nat) (hS : s.heap.get? S = some { cls := .type "list", data := .seq #[] c0 })
    (hR : ∀ h' acc c as, (∀ b o, b ≠ S → s.heap.get? b = some o → h'.get? b = some o) → h'.get? S = some { cls := .type "list", data := .seq acc c } → as.length = es.size → Twos es s.heap.objs.size h' as → acc.toList = as.map Value.ref → R (.ok (.ret res)) { s with heap := h' }) (hn : es.size ≤ sizeLine) :
    wpAny (model prog w) A.in1 (Builtin.List.listExtendWith (.ref S) (.ref r) res) (fun fin s' => match fin with | .done f => R (.ok f) s' | .again c' => c'.quiet = true ∧ codeAny (model prog w) A c' R s') (fun e s' => R (.error e) s') s := by
  have hSI : S < s.heap.objs.size := Heap.lt_size hS
  have hdI : d < s.heap.objs.size := Heap.lt_size hod
  have go : ∀ (h : Heap) (c1 : Nat), (∀ b o, b ≠ S → (s.heap.push (itO .none false d 0 es.size ep .none .none)).get? b = some o → h.get? b = some o) → h.get? S = some { cls := .type "list", data := .seq #[] c1 } →
      codeAny (model prog w) A (.builtin "list.extend.loop" ⟨[.ref S, .ref s.heap.objs.size, res], []⟩) R { s with heap := h } := fun h c1 hk hS1 =>
    fill_loop (s := s) (h0 := s.heap) hh hSI hSd (Nat.ne_of_lt hdI) hn hdd res (fun h' acc c as k1 => hR h' acc c as fun b o hb e => k1 b o hb (Nat.ne_of_lt (Heap.lt_size e)) e) es.size 0 h c1 #[] [] (Nat.zero_add _)
      ⟨.none, false, .none, .none, hk _ _ (Nat.ne_of_gt hSI) (Heap.get?_push_size _ rfl), .inl rfl⟩ (hk d _ hSd (Heap.get?_push_of_some _ hod)) (fun b o hb _ e => hk b o hb (Heap.get?_push_of_some _ e)) hS1 rfl rfl ⟨.nil, (fun _ q => by cases q), (fun j a q => by simp at q)⟩
  unfold Builtin.List.listExtendWith
  refine wpAny_bind (wpAny_typeOf (T := "dict_items") hv.typeIs ?_)
  simp only [show Builtin.List.listSameRef (.ref S) (.ref r) = false from by simp [Builtin.List.listSameRef, hSr], show (Value.type "dict_items" == Value.type "list") = false from by decide, show (Value.type "dict_items" == Value.type "tuple") = false from by decide, Bool.or_false, Bool.false_eq_true, if_false]
  refine wpAny_bind (iter_items hv hod hdd ?_)
  have hS1 := Heap.get?_push_of_some (itO .none false d 0 es.size ep .none .none) hS
  refine wpAny_bind (wpAny_holding (PySem.W.kdx_hint (let ⟨o, ho, hc, _⟩ := hv; ⟨o, Heap.get?_push_of_some _ ho, hc⟩) ?_))
  refine wpAny_ite_split (fun _ => ?_) fun _ => wpAny_pure ⟨plainId_quiet PySem.F.plain_extend_loop _, go _ c0 (fun b o _ e => e) hS1⟩
  refine wpAny_bind (wpAny_rule (wpAny_bind ?_))
  show wpAny _ _ (updateSeq S (·.push .none) >>= fun _ => updateSeq S (·.pop)) _ _ _
  refine wpAny_bind (wpAny_updateSeq hS1 rfl ?_)
  have hS2 := Heap.get?_update_self (Obj.mapSeq (·.push Value.none)) hS1 rfl
  refine wpAny_updateSeq (hz := by seq_fits) hS2 rfl (wpAny_pure ⟨plainId_quiet PySem.F.plain_extend_loop _, go _ _ (fun b o hb e => ?_) (Heap.get?_update_self (Obj.mapSeq (·.pop)) hS2 rfl)⟩)
  exact (Heap.get?_update_other _ _ (Ne.symm hb)).trans ((Heap.get?_update_other _ _ (Ne.symm hb)).trans e)
theorem init_items (hh : A.handled = none) (hv : s.heap.IsItemsView r d) (hod : s.heap.get? d = some od) (hdd : od.data = .dict es ep) (hSr : S ≠ r) (hSd : d ≠ S) (hS : s.heap.get? S = some { cls := .type "list", data := .seq #[] })
    (hR : ∀ h' acc c as, (∀ b o, b ≠ S → s.heap.get? b = some o → h'.get? b = some o) → h'.get? S = some { cls := .type "list", data := .seq acc c } → as.length = es.size → Twos es S h' as → acc.toList = as.map Value.ref → R (.ok (.ret .none)) { s with heap := h' }) (hn : es.size ≤ sizeLine) :
    wpAny (model prog w) A.in1 (Builtin.«list.__init__» ⟨[.ref S, .ref r], []⟩) (fun fin s' => match fin with | .done f => R (.ok f) s' | .again c' => c'.quiet = true ∧ codeAny (model prog w) A c' R s') (fun e s' => R (.error e) s') s := by
  show wpAny _ _ (do let old ← Builtin.List.listItems (.ref S); Builtin.List.listUpdate (.ref S) (fun _ => #[]); letGo old.toList.reverse; Builtin.List.listExtendWith (.ref S) (.ref r) .none) _ _ s
  refine wpAny_bind ?_
  unfold Builtin.List.listItems
  refine wpAny_bind (wpAny_seqItems hS rfl (wpAny_pure ?_))
  show wpAny _ _ (updateSeq S (fun _ => #[]) >>= fun _ => letGo (#[] : Array Value).toList.reverse >>= fun _ => Builtin.List.listExtendWith (.ref S) (.ref r) .none) _ _ s
  refine wpAny_bind (wpAny_updateSeq hS rfl (wpAny_bind (wpAny_letGo ?_)))
  have hS2 := Heap.get?_update_self (Obj.mapSeq (fun _ => (#[] : Array Value))) hS rfl
  have oth : ∀ b o, b ≠ S → s.heap.get? b = some o → (s.heap.update S (Obj.mapSeq (fun _ => (#[] : Array Value)))).get? b = some o := fun b o hb e => (Heap.get?_update_other _ _ (Ne.symm hb)).trans e
  refine fill_items hh (let ⟨o, ho, x⟩ := hv; ⟨o, oth r o hSr.symm ho, x⟩) (oth d _ hSd hod) hdd hSr hSd .none _ hS2 (fun h' acc c as hk hS' hl hG ha => ?_) hn
  exact hR h' acc c as (fun b o hb e => hk b o hb (oth b o hb e)) hS' hl ⟨hG.rise, fun a q => Nat.lt_trans (Heap.lt_size hS2) (hG.above a q), hG.at_⟩ ha
theorem call_items {Q : Value → Shared → Prop} {E : Value → Shared → Prop} (hh : A.handled = none) (hv : s.heap.IsItemsView r d) (hod : s.heap.get? d = some od) (hdd : od.data = .dict es ep) (hn : es.size ≤ sizeLine)
    (hQ : ∀ h' acc c as, (∀ b o, s.heap.get? b = some o → h'.get? b = some o) → h'.get? s.heap.objs.size = some { cls := .type "list", data := .seq acc c } → as.length = es.size → Twos es s.heap.objs.size h' as → acc.toList = as.map Value.ref → Q (.ref s.heap.objs.size) { s with heap := h' }) :
    wpAny (model prog w) A (call (.type "list") [.ref r]) Q E s := by
  refine callType_codes (Q₁ := fun obj s₁ => obj = .ref s.heap.objs.size ∧ s₁ = { s with heap := s.heap.push { cls := .type "list", data := .seq #[] } }) PySem.F.called_list (PySem.F.typeCall_list_1 _) PySem.F.entry_list_init (code_list_new _ ⟨rfl, rfl⟩) fun obj s₁ h₁ => ?_
  obtain ⟨rfl, rfl⟩ := h₁
  have hS : (s.heap.push { cls := .type "list", data := .seq #[] }).get? s.heap.objs.size = some { cls := .type "list", data := .seq #[] } := Heap.get?_push_size _ rfl
  have hr : r < s.heap.objs.size := let ⟨_, ho, _⟩ := hv; Heap.lt_size ho
  refine ⟨⟨_, hS, rfl⟩, PySem.F.args_list_init_2 _ _, init_items (A := A.in1) hh (let ⟨o, ho, x⟩ := hv; ⟨o, Heap.get?_push_of_some _ ho, x⟩) (Heap.get?_push_of_some _ hod) hdd (Nat.ne_of_gt hr) (Nat.ne_of_lt (Heap.lt_size hod)) hS (fun h' acc c as hk hS' hl hG ha => ?_) hn⟩
  exact ⟨rfl, hQ h' acc c as (fun b o e => hk b o (Nat.ne_of_lt (Heap.lt_size e)) (Heap.get?_push_of_some _ e)) hS' hl hG ha⟩
end
/-- the tuples tracked where they stand -/
def putP (H : Hp) : List Addr → List (V × V) → Hp
  | a :: as, p :: ps => L2.upd (putP H as ps) a (.tup [p.1, p.2])
  | _, _ => H
theorem putP_off {H : Hp} {b : Addr} : ∀ {as : List Addr} {ps : List (V × V)}, b ∉ as → putP H as ps b = H b
  | [], _, _ => by simp [putP]
  | _ :: _, [], _ => by simp [putP]
  | a :: as, p :: ps, h => by
    rw [List.mem_cons, not_or] at h
    rw [putP, upd_ne h.1, putP_off h.2]
theorem putP_at {H : Hp} : ∀ {as : List Addr} {ps : List (V × V)}, as.length = ps.length → as.Nodup → Paired (fun t (q : V × V) => putP H as ps t = some (.tup [q.1, q.2])) as ps
  | [], [], _, _ => .nil
  | [], _ :: _, h, _ => by simp at h
  | _ :: _, [], h, _ => by simp at h
  | a :: as, p :: ps, h, nd => by
    rw [List.nodup_cons] at nd
    refine .cons (by rw [putP, upd_same]) ?_
    have r := putP_at (H := H) (as := as) (ps := ps) (by simpa using h) nd.2
    have : ∀ {bs : List Addr} {qs : List (V × V)}, (∀ b ∈ bs, b ≠ a) → Paired (fun t (q : V × V) => putP H as ps t = some (.tup [q.1, q.2])) bs qs → Paired (fun t (q : V × V) => putP H (a :: as) (p :: ps) t = some (.tup [q.1, q.2])) bs qs := by
      intro bs qs nb r
      induction r with
      | nil => exact .nil
      | cons e _ ih =>
        refine .cons ?_ (ih fun b hb => nb b (List.mem_cons_of_mem _ hb))
        rw [putP, upd_ne (nb _ List.mem_cons_self)]; exact e
    exact this (fun b hb e => nd.1 (e ▸ hb)) r
theorem paired_at {α β : Type} {G : α → β → Prop} : ∀ {xs : List α} {ys : List β}, Paired G xs ys → ∀ {x : α}, x ∈ xs → ∃ (j : Nat) (y : β), xs[j]? = some x ∧ ys[j]? = some y ∧ G x y
  | _, _, .cons h t, x, hx => by
    rcases List.mem_cons.mp hx with rfl | hx
    · exact ⟨0, _, rfl, rfl, h⟩
    · obtain ⟨j, y, e⟩ := paired_at t hx
      exact ⟨j + 1, y, by simpa using e⟩
abbrev EntP (p : V × V) (en : DictEntry) : Prop := RelV p.1 en.key ∧ RelV p.2 en.val
theorem two_laid {X : Cx} {pins : List (Addr × Obj)} {σ : L2.St} {H : Hp} {s : Shared} {h' : Heap} {ps : List (V × V)} {es : Array DictEntry} {acc : Array Value} {c : Nat} {as : List Addr} (I : Inv X pins σ H s) (hz : ps.length ≤ sizeLine) (pr : Paired EntP ps es.toList)
    (hk : ∀ b o, s.heap.get? b = some o → h'.get? b = some o) (hS : h'.get? s.heap.objs.size = some { cls := .type "list", data := .seq acc c }) (hl : as.length = es.size) (hT : Twos es s.heap.objs.size h' as) (ha : acc.toList = as.map Value.ref) :
    ∃ H' : Hp, (∀ b o, H b = some o → H' b = some o) ∧ H s.heap.objs.size = none ∧ (∀ t ∈ as, H t = none) ∧ s.heap.objs.size ∉ as ∧ H' s.heap.objs.size = some (.lst (as.map V.ref)) ∧ Paired (fun t (q : V × V) => H' t = some (.tup [q.1, q.2])) as ps ∧ Inv X pins σ H' { s with heap := h' } := by
  have lp : ps.length = es.size := by rw [Paired.length pr]; simp
  have Sn : s.heap.objs.size ∉ as := fun q => Nat.lt_irrefl _ (hT.above _ q)
  have nd : as.Nodup := hT.rise.imp fun {a b} q => Nat.ne_of_lt q
  have new : ∀ t ∈ as, H t = none := fun t q => I.hok.fresh (Nat.le_of_lt (hT.above t q))
  have newS : H s.heap.objs.size = none := I.hok.fresh (Nat.le_refl _)
  have at_ := putP_at (H := L2.upd H s.heap.objs.size (.lst (as.map V.ref))) (as := as) (ps := ps) (by omega) nd
  have off : ∀ b, b ∉ as → b ≠ s.heap.objs.size → putP (L2.upd H s.heap.objs.size (.lst (as.map V.ref))) as ps b = H b := fun b q1 q2 => by rw [putP_off q1, upd_ne q2]
  have low : ∀ b o, s.heap.get? b = some o → b ∉ as ∧ b ≠ s.heap.objs.size := fun b o e => ⟨fun q => Nat.lt_irrefl b (Nat.lt_trans (Heap.lt_size e) (hT.above b q)), Nat.ne_of_lt (Heap.lt_size e)⟩
  have eS : putP (L2.upd H s.heap.objs.size (.lst (as.map V.ref))) as ps s.heap.objs.size = some (.lst (as.map V.ref)) := by rw [putP_off Sn, upd_same]
  have kp : ∀ b o, H b = some o → putP (L2.upd H s.heap.objs.size (.lst (as.map V.ref))) as ps b = some o := fun b o e => by
    rw [off b (fun q => by rw [new b q] at e; cases e) (fun q => by rw [q, newS] at e; cases e), e]
  refine ⟨_, kp, newS, new, Sn, eS, at_, ?_⟩
  refine Inv.call' (ch := []) I rfl ⟨fun b o e _ _ _ => hk b o e, fun b o e _ _ _ => ⟨o.slots, hk b o e⟩, fun b o e nn _ => ?_, fun b o e _ => ⟨o, hk b o e⟩, fun b xs => kp b _, fun b o u => kp b _, fun b pl e => ⟨#[], by simpa using kp b _ e⟩⟩ (fun b u e => ?_) I.bare fun b q => by cases q
  · rw [off b (low b o e).1 (low b o e).2, nn]
  · by_cases hb : b ∈ as
    · obtain ⟨j, pk, e1, e2, e3⟩ := paired_at at_ hb
      rw [e3] at e
      cases e
      obtain ⟨en, f1, f2⟩ := hT.at_ j b e1
      obtain ⟨en', g1, g2⟩ := paired_get pr e2
      rw [Array.getElem?_toList, f1] at g1
      cases g1
      exact ⟨by show 2 ≤ sizeLine; decide, [en.key, en.val], .cons g2.1 (.cons g2.2 .nil), ⟨_, f2, rfl, _, rfl⟩⟩
    · by_cases hb2 : b = s.heap.objs.size
      · subst hb2
        rw [eS] at e
        cases e
        refine ⟨by rw [List.length_map]; omega, acc.toList, c, by rw [ha]; exact vals_refs as, ?_⟩
        rw [Array.toArray_toList]; exact hS
      · rw [off b hb hb2] at e
        exact (I.hok b u e).stay (fun d v _ y => hk d v y) (fun d y => kp d _ y) fun d xs y => kp d _ y
/-- what a locked dict holds, by its entries -/
def dItems (H : Hp) (a : Addr) (ps : List (V × V)) : Prop :=
  (∃ o kvs, H a = some (.frz o (.dK kvs)) ∧ ps = kvs.map fun q => (kV q.1, q.2)) ∨
  (∃ o kvs bs, H a = some (.frz o (.dT kvs)) ∧ Paired (fun (b : Addr) (q : List Key × V) => H b = some (.tup (q.1.map kV))) bs kvs ∧ ps = List.zipWith (fun b (q : List Key × V) => (V.ref b, q.2)) bs kvs)
theorem ent_dK {P : Program} {w : World} {es : List DictEntry} {vs : List (Key × Value)} (h : PySem.Pairs (mixKind P w) es vs) : ∀ {kvs : List (Key × V)}, KV kvs vs → Paired EntP (kvs.map fun q => (kV q.1, q.2)) es := by
  induction h with
  | nil => intro kvs k; cases k; exact .nil
  | cons h1 h2 _ ih =>
    intro kvs k
    cases k with
    | cons a r =>
      refine .cons ⟨?_, ?_⟩ (ih r)
      · show RelV (kV _) _
        rw [a.1]; exact relV_key h1
      · show RelV _ _
        rw [h2]; exact a.2
theorem ent_dT {P : Program} {w : World} {H : Hp} : ∀ {kvs : List (List Key × V)} {xs : List (List Key × Addr × Value)}, Paired (fun (p : List Key × V) (q : List Key × Addr × Value) => p.1 = q.1 ∧ H q.2.1 = some (.tup (p.1.map kV)) ∧ RelV p.2 q.2.2) kvs xs →
    Paired (fun (b : Addr) (q : List Key × V) => H b = some (.tup (q.1.map kV))) (xs.map (·.2.1)) kvs ∧ Paired EntP (List.zipWith (fun b (q : List Key × V) => (V.ref b, q.2)) (xs.map (·.2.1)) kvs) (xs.map (entryOfKey (tupleKind (mixKind P w)))) := by
  intro kvs xs h
  induction h with
  | nil => exact ⟨.nil, .nil⟩
  | cons a _ ih => exact ⟨.cons a.2.1 ih.1, .cons ⟨rfl, a.2.2⟩ ih.2⟩
section
variable {z : Zn} {X : Cx} {e : Expr} {t : TE} {we : WE} {p apos cpos pos : Pos}
/-- list(x.items()), x a locked dict of whatever keys -/
def tItA (te : TE) : TE := fun σ H Q => te σ H fun x H1 => ∃ a : Addr, x = .ref a ∧ ((∃ o kvs, H1 a = some (.frz o (.dK kvs))) ∨ ∃ o kvs, H1 a = some (.frz o (.dT kvs))) ∧ ∀ (ps : List (V × V)) (H' : Hp) (l : Addr) (ts : List Addr), dItems H1 a ps → (∀ b u, H1 b = some u → H' b = some u) → H1 l = none → (∀ t ∈ ts, H1 t = none) → l ∉ ts → H' l = some (.lst (ts.map V.ref)) →
  Paired (fun (t : Addr) (q : V × V) => H' t = some (.tup [q.1, q.2])) ts ps → Q (.ref l) H'
theorem inv_ents {pins : List (Addr × Obj)} {σ : L2.St} {H : Hp} {s : Shared} {a : Addr} (I : Inv X pins σ H s) (h : (∃ o kvs, H a = some (.frz o (.dK kvs))) ∨ ∃ o kvs, H a = some (.frz o (.dT kvs))) :
    ∃ (ps : List (V × V)) (es : Array DictEntry) (ep : Nat), dItems H a ps ∧ (a == sysModules) = false ∧ s.heap.DictRaw a es ep ∧ Paired EntP ps es.toList ∧ ps.length ≤ sizeLine := by
  rcases h with ⟨o, kvs, h⟩ | ⟨o, kvs, h⟩
  · obtain ⟨hd, z, hs, vs, kv, o', es, ep, ho, hx, hdt, r⟩ := I.hok a _ h
    exact ⟨_, es, ep, .inl ⟨o, kvs, h, rfl⟩, hs, ⟨o', ho, hx, hdt⟩, ent_dK r.2.1 kv, by simpa using z⟩
  · obtain ⟨hd, z, hs, xs, pr, o', es, ep, ho, hx, hdt, he, _⟩ := I.hok a _ h
    have q := ent_dT (P := X.prog) (w := X.w) pr
    refine ⟨_, es, ep, .inr ⟨o, kvs, _, h, q.1, rfl⟩, hs, ⟨o', ho, hx, hdt⟩, by rw [he]; exact q.2, ?_⟩
    rw [List.length_zipWith]
    exact Nat.le_trans (Nat.min_le_right _ _) z
theorem pe_itA (hc : X.calm = true) (he : PE X e t) (hg : Gl X "list") (hm : X.mg "list" = none) (hv : bootBuiltins "list" = some (.type "list")) (hbase : attributeBase e "items" X.env (eval e X.env) = eval e X.env := by rfl) (hline : (apos.endLine == cpos.line) = true := by rfl)
    (hs : starEach [.Call (.Attribute e "items" apos) [] [] cpos] X.env = (false, eval (.Call (.Attribute e "items" apos) [] [] cpos) X.env) :: starEach [] X.env := by rfl) : PE X (.Call (.Name "list" p) [.Call (.Attribute e "items" apos) [] [] cpos] [] pos) (tItA t) := ⟨fun pins s σ H Q I hq => by
  refine wpAny_Call_Name_kw (ld_blt I hg hm hv (PyProof.Rows.callWith_type1 ?_ hs rfl))
  rw [hs]; show wpAny _ _ (spliced ((false, eval (.Call (.Attribute e "items" apos) [] [] cpos) X.env) :: backTo pos (starEach [] X.env))) _ _ s
  refine Calls.spliced_cons (wpAny_Call_method (T := "dict") (id := "dict.items") hbase rfl hline F.plainAttrs_dict F.slot_dict_items F.type_dict_items (thn (he.run pins s σ H _ I hq) fun u s1 ⟨x, H1, I1, rx, a, ex, hd, q⟩ => ?_))
  cases ex
  cases (show u = Value.ref a from rx)
  obtain ⟨ps, es, ep, it, ns, ⟨od, ho, hx, hdt⟩, pr, hz⟩ := inv_ents I1 hd
  have J2 : Inv X pins σ H1 { s1 with heap := s1.heap.push { cls := .type "dict_items", data := .fields #[.ref a] } } := I1.kept (t' := s1.toks) fun _ _ y => Heap.get?_push_of_some _ y
  have ty : s1.TypeIs (.ref a) "dict" := ⟨od, ho, hx.1⟩
  have nod : s1.TypeIs (.ref a) "dict" := ty
  refine ⟨ty, ?_, ?_⟩
  · exact fun b e => by cases e; exact ⟨od, ho, by first | exact hx.2 | exact hx.2.1 | exact hx.2.2⟩
  show wpAny _ _ (callWith cpos (.builtin "dict.items") [.ref a] [] []) _ X.xe s1
  refine method_meetsIn F.slot_dict_items F.entry_dict_items rfl (PySem.evalArgs_none ⟨rfl, ty, F.args_dict_items_1 _, _, meets_dict_items_raw a ns, ⟨es, ep, od, ho, hx, hdt⟩, Calls.spliced_nil ?_⟩)
  refine call_items (d := a) (od := od) (es := es) (ep := ep) (I1.ok.hd hc) ⟨_, Heap.get?_push_size _ rfl, rfl, rfl⟩ (Heap.get?_push_of_some _ ho) hdt (by have q := Paired.length pr; simp only [Array.length_toList] at q; exact q ▸ hz) fun h' acc c as y1 y2 y3 y4 y5 => ?_
  obtain ⟨H', k1, k2, k3, k4, k5, k6, J⟩ := two_laid J2 hz pr y1 y2 y3 y4 y5
  exact ⟨V.ref _, H', J, rfl, q ps H' _ as it k1 k2 k3 k4 k5 k6⟩⟩
theorem rp_twos {F : Hp} : ∀ {ts : List Addr} {ps : List (V × V)} {es : List (PyData × PyData)}, Paired (fun t (q : V × V) => F t = some (.tup [q.1, q.2])) ts ps → Paired (fun (q : V × V) (p : PyData × PyData) => Rp F q.1 p.1 ∧ Rp F q.2 p.2) ps es → RpA F (ts.map V.ref) (es.map pairK)
  | _, _, _, .nil, .nil => .nil
  | _, _, _, .cons a r, .cons b r' => .cons (.tup a (.cons b.1 (.cons b.2 .nil))) (rp_twos r r')
theorem rpK_two {F F' : Hp} (x : Ex F F') : ∀ {kvs : List (Key × V)} {es : List (PyData × PyData)}, RpK F kvs es → Paired (fun (q : V × V) (p : PyData × PyData) => Rp F' q.1 p.1 ∧ Rp F' q.2 p.2) (kvs.map fun q => (kV q.1, q.2)) es
  | _, _, .nil => .nil
  | _, _, .cons r rs => .cons ⟨rp_kV _, r.mono x⟩ (rpK_two x rs)
theorem rpT_two {F F' : Hp} (x : Ex F F') : ∀ {kvs : List (List Key × V)} {es : List (PyData × PyData)} {bs : List Addr}, RpT F kvs es → Paired (fun (b : Addr) (q : List Key × V) => F' b = some (.tup (q.1.map kV))) bs kvs → Paired (fun (q : V × V) (p : PyData × PyData) => Rp F' q.1 p.1 ∧ Rp F' q.2 p.2) (List.zipWith (fun b (q : List Key × V) => (V.ref b, q.2)) bs kvs) es
  | _, _, _, .nil, .nil => .nil
  | _, _, _, .cons r rs, .cons a as => .cons ⟨.tup a (rpA_kV _), r.mono x⟩ (rpT_two x rs as)
theorem paired_imp {α β : Type} {F G : α → β → Prop} {xs : List α} {ys : List β} (h : Paired F xs ys) (g : ∀ x ∈ xs, ∀ y, F x y → G x y) : Paired G xs ys := paired_mono h g
/-- the heap that is frozen: with the new tuples, and the keys' own -/
theorem grow_twos {F1 H1 H' : Hp} {as bs : List Addr} (sub : Ex F1 H1) (kp : ∀ b u, H1 b = some u → H' b = some u) (new : ∀ t ∈ as, H1 t = none) (old : ∀ b ∈ bs, ∃ xs, H1 b = some (.tup xs)) :
    Grow z F1 H1 (fun b => if b ∈ as ∨ b ∈ bs then H' b else F1 b) H' := {
  keep := fun b o _ hb => kp b o hb
  dom := fun b hb => by
    cases q : H1 b with
    | none => rfl
    | some o => rw [kp b o q] at hb; cases hb
  ext := fun b o hb => by
    show (if b ∈ as ∨ b ∈ bs then H' b else F1 b) = some o
    by_cases q : b ∈ as ∨ b ∈ bs
    · rw [if_pos q]; exact kp b o (sub b o hb)
    · rw [if_neg q]; exact hb
  sub := fun b o hb => by
    have hb : (if b ∈ as ∨ b ∈ bs then H' b else F1 b) = some o := hb
    by_cases q : b ∈ as ∨ b ∈ bs
    · rw [if_pos q] at hb; exact hb
    · rw [if_neg q] at hb; exact kp b o (sub b o hb)
  new := fun b h1 h2 => by
    show (if b ∈ as ∨ b ∈ bs then H' b else F1 b) = none ∨ ∃ xs, (if b ∈ as ∨ b ∈ bs then H' b else F1 b) = some (.tup xs)
    by_cases q : b ∈ as ∨ b ∈ bs
    · rw [if_pos q]
      rcases q with q | q
      · exact absurd (new b q) h1
      · obtain ⟨xs, e⟩ := old b q
        exact .inr ⟨xs, kp b _ e⟩
    · rw [if_neg q]; exact .inl h2 }
@[simp] def wItemsA (w : WE) : WA := fun en P => w en fun d n => ∃ es, d = .dict es ∧ P (es.map pairK) n
theorem jl_itemsA (bi : ∀ x ∈ BI, X.mg x = none) (h : JE z X e t we) (hg : Gl X "list" := by rfl) (hc : X.calm = true := by rfl) (hbase : attributeBase e "items" X.env (eval e X.env) = eval e X.env := by rfl) (hline : (apos.endLine == cpos.line) = true := by rfl)
    (hs : starEach [.Call (.Attribute e "items" apos) [] [] cpos] X.env = (false, eval (.Call (.Attribute e "items" apos) [] [] cpos) X.env) :: starEach [] X.env := by rfl) :
    JL z X (.Call (.Name "list" p) [.Call (.Attribute e "items" apos) [] [] cpos] [] pos) (tItA t) (wItemsA we) where
  pe := pe_itA hc h.pe hg (bi _ (by decide)) (by decide +kernel) hbase hline hs
  de := fun B σ H F en s P Q hw k => by
    refine h.de B σ H F en s _ _ hw fun v H1 F1 d n1 g1 s1 r1 q1 => ?_
    obtain ⟨es, rfl, q⟩ := q1
    cases r1 with
    | @dT a o kvs _ ha hne r =>
      have e1 := g1.sub _ _ ha
      refine ⟨a, rfl, .inr ⟨o, kvs, e1⟩, fun ps H' l ts it kp hl ht hlt hlist hpair => ?_⟩
      rcases it with ⟨o', kvs', e2, rfl⟩ | ⟨o', kvs', bs, e2, pb, rfl⟩
      · rw [e1] at e2; cases e2
      · rw [e1] at e2; cases e2
        have g2 := grow_twos (z := z) (bs := bs) g1.sub kp ht fun b hb => by obtain ⟨y, e⟩ := paired_mem pb b hb; exact ⟨_, e⟩
        have hF : (if l ∈ ts ∨ l ∈ bs then H' l else F1 l) = none := by
          rw [if_neg (fun q => ?_)]
          · exact none_of_sub g1.sub hl
          · rcases q with q | q
            · exact hlt q
            · obtain ⟨y, e⟩ := paired_mem pb l q
              rw [hl] at e; cases e
        refine k l _ H' _ _ n1 (g1.trans g2) (s1.ex kp) (g1.dom l hl) hF hlist (rp_twos (paired_mono hpair fun b hb y q => ?_) (rpT_two g2.ext r (paired_mono pb fun b hb y q => ?_))) q
        · show (if b ∈ ts ∨ b ∈ bs then H' b else F1 b) = _
          rw [if_pos (.inl hb)]; exact q
        · show (if b ∈ ts ∨ b ∈ bs then H' b else F1 b) = _
          rw [if_pos (.inr hb)]; exact kp b _ q
    | @dK a o kvs _ ha r =>
      have e1 := g1.sub _ _ ha
      refine ⟨a, rfl, .inl ⟨o, kvs, e1⟩, fun ps H' l ts it kp hl ht hlt hlist hpair => ?_⟩
      rcases it with ⟨o', kvs', e2, rfl⟩ | ⟨o', kvs', bs, e2, pb, rfl⟩
      · rw [e1] at e2; cases e2
        have g2 := grow_twos (z := z) (bs := []) g1.sub kp ht fun b hb => by cases hb
        have hF : (if l ∈ ts ∨ l ∈ ([] : List Addr) then H' l else F1 l) = none := by
          rw [if_neg (fun q => ?_)]
          · exact none_of_sub g1.sub hl
          · rcases q with q | q
            · exact hlt q
            · cases q
        refine k l _ H' _ _ n1 (g1.trans g2) (s1.ex kp) (g1.dom l hl) hF hlist (rp_twos (paired_mono hpair fun b hb y q => ?_) (rpK_two g2.ext r)) q
        show (if b ∈ ts ∨ b ∈ ([] : List Addr) then H' b else F1 b) = _
        rw [if_pos (.inl hb)]; exact q
      · rw [e1] at e2; cases e2
end
end DD
/-! The Deep layer: x[::-1], x a tuple or a list. -/
namespace DD
open PySem PySem.Spec PyProof.Rows L2
open Evl (Ex)
section
variable {prog : Program} {w : World} {A : Around} {E : Value → Shared → Prop} {s : Shared}
theorem rev_adjust (n : Nat) : Builtin.Slice.sliceAdjust none none (-1) (n : Int) = ((n : Int) - 1, -1) := by simp [Builtin.Slice.sliceAdjust]
theorem rev_places (n : Nat) : Builtin.Slice.slicePlaces ((n : Int) - 1) (-1) (-1) = n := by
  unfold Builtin.Slice.slicePlaces
  rw [if_neg (by omega)]
  by_cases h : (n : Int) - 1 > -1
  · rw [if_pos h]
    simp only [Int.neg_neg, Int.ediv_one]
    omega
  · rw [if_neg h]; simp; omega
theorem rev_pick : ∀ xs : List Value, (List.range xs.length).filterMap (fun (m : Nat) => xs.toArray[((xs.length : Int) - 1 + (m : Int) * -1).toNat]?) = xs.reverse := by
  intro xs
  apply List.ext_getElem?
  intro i
  have key : ∀ k, k ≤ xs.length → (List.range k).filterMap (fun (m : Nat) => xs.toArray[((xs.length : Int) - 1 + (m : Int) * -1).toNat]?) = xs.reverse.take k := by
    intro k
    induction k with
    | zero => intro _; rfl
    | succ k ih =>
      intro hk
      have e : ((xs.length : Int) - 1 + (k : Int) * -1).toNat = xs.length - 1 - k := by omega
      have g : xs.toArray[xs.length - 1 - k]? = xs.reverse[k]? := by
        rw [List.getElem?_toArray, List.getElem?_reverse (by omega)]
      rw [List.range_succ, List.filterMap_append, ih (by omega), List.filterMap_cons, e, g, List.take_succ]
      have h2 : xs.reverse[k]? = some (xs.reverse[k]'(by rw [List.length_reverse]; omega)) := List.getElem?_eq_getElem _
      rw [h2]; rfl
  rw [key _ (Nat.le_refl _), List.take_of_length_le (by rw [List.length_reverse]; exact Nat.le_refl _)]
theorem applied_rev {sl : Addr} {n : Nat} {t : Tok} {Q : Int × Int × Nat → Shared → Prop} (hs : s.heap.IsSliceOf sl .none .none (.int (-1) t)) (h : Q ((n : Int) - 1, -1, n) s) : wpAny (model prog w) A (Builtin.Slice.sliceApplied (.ref sl) (pure (n : Int))) Q E s := by
  obtain ⟨os, hos, hcs, hds⟩ := id hs
  unfold Builtin.Slice.sliceApplied Builtin.Slice.sliceFields
  refine wpAny_bind (wpAny_bind (wpAny_field hos hds (x := .none) rfl (wpAny_bind (wpAny_field hos hds (x := .none) rfl (wpAny_bind (wpAny_field hos hds (x := .int (-1) t) rfl (wpAny_pure ?_)))))))
  refine wpAny_bind (HT.slicePart_ (.int (-1) t) ?_)
  show wpAny _ _ (if ((-1 : Int) == 0) = true then _ else _) _ _ s
  rw [if_neg (by decide)]
  refine wpAny_bind (HT.slicePart_ .none (wpAny_bind (HT.slicePart_ .none (wpAny_bind (wpAny_pure ?_)))))
  show wpAny _ _ (match Builtin.Slice.sliceAdjust none none (-1) (n : Int) with | (lo, hi) => pure (lo, (-1 : Int), Builtin.Slice.slicePlaces lo hi (-1))) _ _ s
  rw [rev_adjust]
  show wpAny _ _ (pure ((n : Int) - 1, (-1 : Int), Builtin.Slice.slicePlaces ((n : Int) - 1) (-1) (-1))) _ _ s
  rw [rev_places]
  exact wpAny_pure h
theorem tuple_rev {t sl : Addr} {its : List Value} {tk : Tok} {Q : Value → Shared → Prop} (ht : IsTup s.heap t its.toArray) (hs : s.heap.IsSliceOf sl .none .none (.int (-1) tk))
    (h : Q (.ref s.heap.objs.size) { s with heap := s.heap.push { cls := .type "tuple", data := .seq its.reverse.toArray } }) (hsz : its.length ≤ sizeLine) : wpAny (model prog w) A (getItem (.ref t) (.ref sl)) Q E s := by
  have hz : sizeOk (.seq its.reverse.toArray) := by
    show its.reverse.toArray.size ≤ sizeLine
    rw [List.size_toArray, List.length_reverse]; exact hsz
  obtain ⟨os, hos, hcs, hds⟩ := id hs
  have hTs : s.TypeIs (.ref sl) "slice" := ⟨os, hos, hcs⟩
  unfold getItem
  try with_reducible refine wpAny_holding ?_
  first | refine wpAny_bind (wpAny_pure ?_) | skip
  refine wpAny_bind (wpAny_sequenceKey ht.typeIs (by decide) (wpAny_bind (wpAny_callSpecial?_slot ht.typeIs PyProof.Rows.slot_tuple_getitem (wpAny_call_entry PyProof.Rows.slot_tuple_getitem ht.typeIs entry_tuple_getitem ?_ (args_tuple_getitem _ _)))))
  show wpAny _ _ (Builtin.Tuple.tupleItemsOf (.ref t) >>= _) _ _ s
  refine wpAny_bind (tupleItemsOf_ ht (wpAny_bind (wpAny_typeOf hTs ?_)))
  rw [if_pos (by decide)]
  refine wpAny_bind ?_
  rw [show (its.toArray.size : Int) = ((its.length : Nat) : Int) from by simp]
  refine applied_rev hs ?_
  show wpAny _ _ (if ((its.length : Int) - 1 == 0 && (-1 : Int) == 1 && its.length == its.toArray.size) = true then _ else _) _ _ s
  rw [if_neg (by simp), rev_pick]
  first
    | exact wpAny_bind (m := Builtin.Tuple.tupleExact _) (wpAny_newObj_type (wpAny_pure ⟨_, rfl, wpAny_pure h⟩) hz)
    | exact wpAny_bind (m := Builtin.Tuple.tupleExact _) (wpAny_newObj_type (wpAny_bind (wpAny_pure (wpAny_pure ⟨_, rfl, wpAny_pure h⟩))) hz)
    | exact wpAny_bind (wpAny_bind (m := Builtin.Tuple.tupleExact _) (wpAny_newObj_type (wpAny_pure (wpAny_pure ⟨_, rfl, wpAny_pure h⟩)) hz))
    | exact wpAny_bind (wpAny_bind (m := Builtin.Tuple.tupleExact _) (wpAny_newObj_type (wpAny_pure ⟨_, rfl, wpAny_pure h⟩) hz))
end
def tRevA (K : PySem.W.Frag) (te : TE) : TE := fun σ H Q => te σ H fun x H1 => ∃ a xs, x = .ref a ∧ ((SqL K H1 a xs ∧ ∀ p, H1 p = none → Q (.ref p) (L2.upd H1 p (.lst xs.reverse))) ∨ (SqT K H1 a xs ∧ ∀ p, H1 p = none → Q (.ref p) (L2.upd H1 p (.tup xs.reverse))))
section
variable {z : Zn} {X : Cx} {e : Expr} {t : TE} {wa : WE} {pos p3 : Pos}
theorem pe_revA {k : Nat} {p1 p2 : Pos} (he : PE X e t) : PE X (.Subscript e (.Slice none none (some (.UnaryOp .USub (.Constant (.int 1) k p1) p2)) p3) pos) (tRevA X.K t) := by
  refine ⟨fun pins s σ H Q I h => ?_⟩
  refine Subscript_ (thn (he.run pins s σ H _ I h) fun v s1 ⟨x, H1, I1, r1, a, xs, ex, q⟩ => ?_)
  subst ex
  cases r1
  have hst : PO X (some (.UnaryOp .USub (.Constant (.int 1) k p1) p2)) (tPart (tUn (rU fun i => .int (-i)) (tC (.int 1)))) := po_some (pe_un un_neg pe_int)
  refine wpAny_Slice (thn (po_none.run pins s1 σ H1 (fun o H2 => o = none ∧ H2 = H1) I1 ⟨rfl, rfl⟩) fun vl s2 ⟨l, H2, I2, pl, el, e2⟩ => ?_)
  subst el e2
  refine thn (po_none.run pins s2 σ H2 (fun o H3 => o = none ∧ H3 = H2) I2 ⟨rfl, rfl⟩) fun vu s3 ⟨u, H3, I3, pu, eu, e3⟩ => ?_
  subst eu e3
  refine thn (hst.run pins s3 σ H3 (fun o H4 => o = some (-1) ∧ H4 = H3) I3 ⟨1, rfl, -1, rfl, rfl, rfl⟩) fun vs s4 ⟨o, H4, I4, ps, eo, e4⟩ => ?_
  subst eo e4
  have I5 : Inv X pins σ H4 { s4 with heap := s4.heap.push { cls := .type "slice", data := .fields #[vl, vu, vs] } } := I4.kept (t' := s4.toks) fun b ob q => Heap.get?_push_of_some _ q
  show wpAny (model X.prog X.w) X.A (subscriptTail e (.Slice none none (some (.UnaryOp .USub (.Constant (.int 1) k p1) p2)) p3) (.ref a) (.ref s4.heap.objs.size)) (EP X pins σ Q) X.xe { s4 with heap := s4.heap.push { cls := .type "slice", data := .fields #[vl, vu, vs] } }
  rcases q with ⟨hx, q⟩ | ⟨hx, q⟩
  · obtain ⟨its, r, ht, hz⟩ := I5.list hx
    have hlen := r.length
    refine tail_any (ops := [.ref a, .ref s4.heap.objs.size]) ht.isList.typeIs (PySem.slot_list_getitem.lookup) ?_ (by with_unfolding_all rfl)
    refine wpAny_getItem_list_slice ht.isList (Heap.IsSliceOf.new _ vl vu vs) pl pu ps (by decide) ?_ (by rw [List.size_toArray]; omega)
    rw [PySem.W.krv_pick]
    exact ⟨.ref _, _, I5.laid (t' := s4.toks) (o := .lst xs.reverse) (fun b ob q => Heap.get?_push_of_some _ q) (Nat.le_refl _) ⟨by rw [List.length_reverse]; exact hz, _, 0, r.reverse, Heap.get?_push_size _ rfl⟩, rfl, q _ (I5.hok.fresh (Nat.le_refl _))⟩
  · obtain ⟨its, r, ht, hz⟩ := I5.tuple hx
    have hlen := r.length
    cases pl
    cases pu
    cases ps with
    | int _ tk =>
      refine tail_any (ops := [.ref a, .ref s4.heap.objs.size]) ht.typeIs (PyProof.Rows.slot_tuple_getitem.lookup) ?_ (by with_unfolding_all rfl)
      refine tuple_rev ht (Heap.IsSliceOf.new _ .none .none (.int (-1) tk)) ?_ (by omega)
      exact ⟨.ref _, _, I5.laid (t' := s4.toks) (o := .tup xs.reverse) (fun b ob q => Heap.get?_push_of_some _ q) (Nat.le_refl _) ⟨by rw [List.length_reverse]; exact hz, _, r.reverse, IsTup.new _ _⟩, rfl, q _ (I5.hok.fresh (Nat.le_refl _))⟩
/-- x[::-1] -/
@[simp] def wRevA (wa : WE) : WE := fun en P => wa en fun d n => (∃ ds, d = .list ds ∧ P (.list ds.reverse) n) ∨ ∃ ds, d = .tuple ds ∧ P (.tuple ds.reverse) n
theorem je_rev {k : Nat} {p1 p5 : Pos} (h : JE z X e t wa) : JE z X (.Subscript e (.Slice none none (some (.UnaryOp .USub (.Constant (.int 1) k p1) p5)) p3) pos) (fun σ H Q => ∀ K, tRevA K t σ H Q) (wRevA wa) where
  pe := ⟨fun pins s σ H Q I q => (pe_revA h.pe).run pins s σ H Q I (q X.K)⟩
  de := fun B σ H F en s P Q hw kk => by
    intro K
    refine h.de B σ H F en s _ _ hw fun v H1 F1 d n1 g1 s1 r1 q1 => ?_
    rcases q1 with ⟨ds, rfl, q⟩ | ⟨ds, rfl, q⟩
    · cases r1 with
      | lst e r =>
        refine ⟨_, _, rfl, .inl ⟨SqL.of (g1.sub _ _ e), fun p hp => ?_⟩⟩
        exact kk _ _ _ _ n1 (g1.trans (Grow.laid g1.sub hp)) (s1.new hp) (.lst upd_same (r.reverse.mono (ex_upd (none_of_sub g1.sub hp)))) q
    · cases r1 with
      | tup e r =>
        refine ⟨_, _, rfl, .inr ⟨SqT.of (g1.sub _ _ e), fun p hp => ?_⟩⟩
        exact kk _ _ _ _ n1 (g1.trans (Grow.laid g1.sub hp)) (s1.new hp) (.tup upd_same (r.reverse.mono (ex_upd (none_of_sub g1.sub hp)))) q
end
end DD
/-! The Deep layer: y = {k: v for ..} on one line. -/
namespace DD
open PySem PySem.Spec PyProof.Rows L2
open Evl (Ex)
section
variable {z : Zn} {X : Cx}
theorem sw_dict {kx vx : Expr} {gs : List Comprehension} {scope : Scope} {pos py : Pos} {y : Str} {l : Nat} {env : Env} (hk : env.scope.kind = .function) (hy : env.scope.names.lookup y = some .local) (hl : (py.line == pos.line) = true)
    (ha : (scope.names.any fun (n, k) => n == y && (k == .local || k == .cell)) = false) : swapsWith (.DictComp kx vx gs scope pos) (some (.Name y py)) l env = pure true := by
  have ky : env.kindOf y = some .local := hy
  have hb : env.blockKind = .function := by unfold Env.blockKind; rw [hk]; rfl
  unfold swapsWith
  simp only [hb, ky, ha, Expr.pos, hl]
  rfl
theorem ps_setDc {i : Nat} {y : Str} {py : Pos} {kx vx tg iter : Expr} {ifs : List Expr} {scope : Scope} {own : List (Str × Nat)} {pos spos : Pos} {wi : TI} {g : TG} {tt : TT} {tk tv : TE} (hc : X.calm = true) (hN : X.N.Nodup) (hy : X.N[i]? = some y) (hyl : X.env.scope.names.lookup y = some .local)
    (hsw : swapsWith (.DictComp kx vx [⟨tg, iter, ifs, 0⟩] scope pos) (some (.Name y py)) spos.line X.env = pure true) (hi : PI X tg iter wi) (ok : BlkOk X.N X.env.scope scope own)
    (hg : ∀ (s : Shared) (H : Hp) (C : Addr) (cl : List (Str × Addr)) (fp : List Addr), PG (X.blk s H scope (compEnvC scope cl C X.env) fp) tg g) (ht : ∀ (s : Shared) (H : Hp) (C : Addr) (cl : List (Str × Addr)) (fp : List Addr), PTs (X.blk s H scope (compEnvC scope cl C X.env) fp) ifs tt)
    (hk : ∀ (s : Shared) (H : Hp) (C : Addr) (cl : List (Str × Addr)) (fp : List Addr), PE (X.blk s H scope (compEnvC scope cl C X.env) fp) kx tk) (he : ∀ (s : Shared) (H : Hp) (C : Addr) (cl : List (Str × Addr)) (fp : List Addr), PE (X.blk s H scope (compEnvC scope cl C X.env) fp) vx tv)
    (hs : ∀ x, foldedSetIterable iter X.env x = pure x := by intro _; rfl) :
    PS X (.Assign [.Name y py] (.DictComp kx vx [⟨tg, iter, ifs, 0⟩] scope pos) spos) (tAsg (tLk (tDc wi g tt tk tv (own.map (·.2)))) (gName i)) := by
  refine ⟨fun pins s σ H D I h => ?_⟩
  rw [exec_Assign_Name_used _ _ _ _ hsw]
  refine wpAny_bind (wpAny_standAt (wpAny_bind ?_))
  show wpAny _ X.A (do let _ ← comprehension (.DictComp kx vx [⟨tg, iter, ifs, 0⟩] scope pos) scope X.env (firstIterPos [⟨tg, iter, ifs, 0⟩] pos) newDict false (eval iter X.env) (some (assign (.Name y py) X.env))) _ _ s
  have h : tDc wi g tt tk tv (own.map (·.2)) σ H (fun x H1 => ∃ d u, H1 d = some u ∧ Mut (some u) ∧ ∀ od, gName i x σ (L2.upd H1 d (.frz od u)) D.nx) := h
  refine wpAny_bind (thn (dc_core (Qf := fun _ s' => SP X pins D .next s') hc hN I hi ok hg ht hk he hs h fun L C s' m H' I' q hn f => ?_) fun _ s' hq => wpAny_pure (wpAny_pure hq))
  obtain ⟨d, u, hd, mu, q⟩ := q
  obtain ⟨od, I3⟩ := I'.lock hd mu
  have f' : FpOk X pins (L2.upd H' d (.frz od u)) C := ⟨by rw [upd_ne (fun e => by have := f.1; rw [e, hd] at this; cases this)]; exact f.1, f.2⟩
  show wpAny _ _ (assign (.Name y py) X.env (.ref L)) _ _ _
  refine wpAny_assign_Name (store_ok2 (v := V.ref L) I3 hN hy (.inl hyl) rfl (fun s2 I2 ⟨a, sb, ha⟩ => ?_) (.inr hyl))
  obtain ⟨f0, f1, f2, f3, f4, f5⟩ := f'
  have haC : C ≠ a := by
    rcases ha with z | z
    · rw [z]; exact f1
    · exact fun e => f4 y a z e.symm
  exact ⟨m, hn.sameBut sb haC, fun h3 sb3 => ⟨_, _, I2.turned (t' := s2.toks) (fun b o hb e => (sb3.2 b hb).trans e) f0 f1 f3 f4 f5, q od⟩⟩
theorem js_setDc {y : Str} {py : Pos} {kx vx tg iter : Expr} {ifs : List Expr} {scope : Scope} {pos spos : Pos} {wi : TI} {g : TG} {tt : TT} {tk tv : TE} {ws : WA} {js : List Nat} {wg : En → PyData → (En → Prop) → Prop} {wt : WT} {wk we : WE} (i : Nat) (own : List (Str × Nat)) (hN : X.N.Nodup) (hy : X.N[i]? = some y) (hyl : X.env.scope.names.lookup y = some .local)
    (hsw : swapsWith (.DictComp kx vx [⟨tg, iter, ifs, 0⟩] scope pos) (some (.Name y py)) spos.line X.env = pure true) (hi : JI z X tg iter wi ws) (ok : blkC X.N X.env.scope scope own = true)
    (hg : ∀ (s : Shared) (H : Hp) (C : Addr) (cl : List (Str × Addr)) (fp : List Addr), JG z (X.blk s H scope (compEnvC scope cl C X.env) fp) tg g js wg) (ht : ∀ (s : Shared) (H : Hp) (C : Addr) (cl : List (Str × Addr)) (fp : List Addr), JTs z (X.blk s H scope (compEnvC scope cl C X.env) fp) ifs tt wt)
    (hk : ∀ (s : Shared) (H : Hp) (C : Addr) (cl : List (Str × Addr)) (fp : List Addr), JE z (X.blk s H scope (compEnvC scope cl C X.env) fp) kx tk wk)
    (he : ∀ (s : Shared) (H : Hp) (C : Addr) (cl : List (Str × Addr)) (fp : List Addr), JE z (X.blk s H scope (compEnvC scope cl C X.env) fp) vx tv we) (hc : X.calm = true := by rfl) (hj : ∀ j ∈ js, j ∈ own.map (·.2) := by decide)
    (hs : ∀ x, foldedSetIterable iter X.env x = pure x := by intro _; rfl) :
    JS z X (.Assign [.Name y py] (.DictComp kx vx [⟨tg, iter, ifs, 0⟩] scope pos) spos) (tAsg (tLk (tDc wi g tt tk tv (own.map (·.2)))) (gName i)) (wAsg (wDc ws wg wt wk we (own.map (·.2))) (wgN i)) where
  ps := ps_setDc hc hN hy hyl hsw hi.pi (blkOk_by ok) (fun s H C cl fp => (hg s H C cl fp).pg) (fun s H C cl fp => (ht s H C cl fp).pts) (fun s H C cl fp => (hk s H C cl fp).pe) (fun s H C cl fp => (he s H C cl fp).pe) hs
  de := den_asg (je_dc own hN hi ok hg ht hk he hc hj hs (pos := pos)).de (js := [i]) fun B σ H F en v d s r P Q hw k => k _ _ (s.set i r) ⟨by simp, fun j hj => by
    rw [List.getElem?_set_ne]
    exact fun q => hj (by simp [q])⟩ hw
end
end DD
/-! The Deep layer: d != i, d a dict. -/
namespace DD
open PySem PySem.Spec PyProof.Rows L2
open Evl (Ex)
theorem dict_ne_int (l : Addr) (es : Array DictEntry) (ep : Nat) (dd : Option Addr) (sl : Array (Option Value)) (b : Int) (u : Tok) :
    Meets (Builtin.«dict.__ne__» ⟨[.ref l, .int b u], []⟩) (fun _ R s => s.heap.get? l = some { cls := .type "dict", dict := dd, data := .dict es ep, slots := sl } ∧ R (.ok (.ret .notImplemented)) s) :=
  .of_wp fun prog w A R s h => by obtain ⟨hp, g, d, tk, os⟩ := s; obtain ⟨hl, h⟩ := h; have f1 := F.sub_int_dict; wp_walk using wpAny_loadPart' hl, wpAny_load hl; exact ⟨_, rfl, h⟩
theorem int_ne_dict (b : Int) (u : Tok) (l : Addr) (c : Value) (es : Array DictEntry) (ep : Nat) (dd : Option Addr) (sl : Array (Option Value)) :
    Meets (Builtin.«int.__ne__» ⟨[.int b u, .ref l], []⟩) (fun _ R s => s.heap.get? l = some { cls := c, dict := dd, data := .dict es ep, slots := sl } ∧ R (.ok (.ret .notImplemented)) s) :=
  .of_wp fun prog w A R s h => by obtain ⟨hp, g, d, tk, os⟩ := s; obtain ⟨hl, h⟩ := h; wp_walk using wpAny_loadPart' hl, wpAny_load hl; exact ⟨_, rfl, h⟩
def rNeX (K : PySem.W.Frag) : R2 := fun x y H Q => (∃ (a : Addr) (o : Obj) (i : Int), x = .ref a ∧ y = .int i ∧ ((∃ kvs, H a = some (.frz o (.dK kvs))) ∨ ∃ kvs, H a = some (.frz o (.dT kvs))) ∧ Q (.bl true) H) ∨ rNeD K x y H Q
section
variable {X : Cx} {z : Zn} {k : Nat}
theorem op_neX (hu : X.A.units + 64 < cLine) : OpR X (compareOp .NotEq) (rNeX X.K) := by
  intro pins s σ H x y v u Q I rx ry h
  rcases h with ⟨a, o, i, rfl, rfl, hd, q⟩ | h
  · obtain ⟨t, rfl⟩ := (show ∃ t, u = Value.int i t from ry)
    cases (show v = Value.ref a from rx)
    obtain ⟨ob, es, ep, hob, hx, hdt⟩ : ∃ (ob : Obj) (es : Array DictEntry) (ep : Nat), s.heap.get? a = some ob ∧ ob.ExactDict ∧ ob.data = .dict es ep := by
      rcases hd with ⟨kvs, hd⟩ | ⟨kvs, hd⟩
      · obtain ⟨_, hgd, hx, es, ep, vs, hdt, _⟩ := I.frzK hd
        exact ⟨_, es, ep, hgd, hx, hdt⟩
      · obtain ⟨_, hgd, hx, es, ep, hdt, _⟩ := I.frzT hd
        exact ⟨_, es, ep, hgd, hx, hdt⟩
    obtain ⟨cls, dd, data, sl⟩ := ob
    obtain ⟨hc, _, _⟩ := hx
    simp only at hc hdt
    subst hc hdt
    show wpAny _ X.A (richCompare .NotEq (.ref a) (.int i t)) _ X.xe s
    refine SeqAt.rc_ne_decline_or (k := false) ⟨_, hob, rfl⟩ (typeIs_int s i t) (by decide) F.sub_int_dict F.slot_dict_ne F.slot_int_ne_refl
      (fun _ hq => call_meets F.slot_dict_ne ⟨_, hob, rfl⟩ F.entry_dict_ne (F.args_dict_ne_2 _ _) (dict_ne_int a es ep dd sl i t) ⟨hob, hq⟩)
      (fun _ hq => call_meets F.slot_int_ne_refl (typeIs_int s i t) F.entry_int_ne (F.args_int_ne_2 _ _) (int_ne_dict i t a (.type "dict") es ep dd sl) ⟨hob, hq⟩)
      (fun _ hq => wpAny_of_eq (rfl : isSame (.ref a) (.int i t) = pure false) hq) (.inr (by omega)) ⟨.bl true, H, I, rfl, q⟩
  · exact op_neD hu pins s σ H x y v u Q I rx ry h
@[simp] def fNeX : PyData → PyData → (PyData → Prop) → Prop := fun d e P => (∃ es i, d = .dict es ∧ e = .int i ∧ P (.bool true)) ∨ (okD d = true ∧ okD e = true ∧ P (.bool (!PyData.eqv d e)))
theorem den_neX : DenR z (kR rNeX) fNeX := by
  intro H F x y d e P Q s rx ry hf k K
  rcases hf with ⟨es, i, rfl, rfl, q⟩ | ⟨h1, h2, q⟩
  · cases ry
    cases rx with
    | @dK a o kvs _ ea r => exact .inl ⟨a, o, i, rfl, rfl, .inl ⟨kvs, s _ _ ea⟩, k _ H F _ (Grow.stay s) (.bl _) q⟩
    | @dT a o kvs _ ea n r => exact .inl ⟨a, o, i, rfl, rfl, .inr ⟨kvs, s _ _ ea⟩, k _ H F _ (Grow.stay s) (.bl _) q⟩
  · exact .inr ⟨d, e, rx.dp s (okD_flat h1).1, ry.dp s (okD_flat h2).1, (okD_flat h1).2, (okD_flat h2).2, k _ H F _ (Grow.stay s) (.bl _) q⟩
theorem c_neX (hr : Room k X.A) : JC z X .NotEq (kR rNeX) fNeX := ⟨kR_ok (op_neX hr.units), den_neX⟩
end
end DD
/-! The Deep layer: {k: v}. -/
namespace DD
open PySem PySem.Spec PyProof.Rows L2
open Evl (Ex)
section
variable {z : Zn} {X : Cx} {k v : Expr} {tk tv : TE} {wk wv : WE} {pos : Pos} {kk : Nat}
def tDisp1T (tk tv : TE) : TE := fun σ H Q => ∀ p, H p = none → tk σ (L2.upd H p (.dT [])) fun y H1 => tv σ H1 fun x H2 => H2 p = some (.dT []) ∧ ∃ (b : Addr) (ks : List Key), y = .ref b ∧ H2 b = some (.tup (ks.map kV)) ∧ Q (.ref p) (L2.upd H2 p (.dT [(ks, x)]))
theorem pe_disp1T (hu : X.A.units + 1 < cLine) (hk : PE X k tk) (hv : PE X v tv) : PE X (.Dict [some k] [v] pos) (tDisp1T tk tv) := by
  refine ⟨fun pins s σ H Q I q => ?_⟩
  have hn := I.hok.fresh (Nat.le_refl s.heap.objs.size)
  have I1 := I.laid (a := s.heap.objs.size) (o := .dT []) (h' := s.heap.push { cls := .type "dict", data := .dict #[] }) (t' := s.toks) (fun _ _ q => Heap.get?_push_of_some _ q) (Nat.le_refl _) (dt_empty s.heap I.big)
  rw [arm_eval_Dict]
  show wpAny _ _ (standAt pos >>= fun _ => dictDisplay ([(eval k X.env, (do let x ← eval v X.env; standAt pos; pure x))].map fun p => (some p.1, p.2))) _ _ s
  rw [dictDisplay_pairs _ (by simp) (by simp)]
  refine wpAny_bind (wpAny_standAt (wpAny_bind ?_))
  unfold subDict
  refine wpAny_bind (wpAny_alloc (wpAny_bind (wpAny_holding ?_)))
  rw [if_pos (by simp)]
  refine wpAny_bind (evalPairs_cons (thn (hk.run pins _ σ _ _ I1 (q _ hn)) fun kv s1 ⟨y, H1, J1, ry, q1⟩ => wpAny_bind (thn (hv.run pins s1 σ H1 _ J1 q1) fun vv s2 ⟨x, H2, J2, rx, q2⟩ => wpAny_bind (wpAny_standAt (wpAny_pure (evalPairs_nil ?_))))))
  obtain ⟨hp, b, ks, rfl, eb, q3⟩ := q2
  cases (show kv = Value.ref b from ry)
  obtain ⟨z, hd, xs, rel, dd⟩ := dt_of J2.hok hp
  cases rel
  refine wpAny_holding (wpAny_bind ?_)
  rw [List.forIn_cons]
  refine wpAny_bind (wpAny_bind (wpAny_dictSet_heap (knd := tupleKind (mixKind X.prog X.w)) (hsz := by show 0 ≤ sizeLine; exact Nat.zero_le _) (by show X.A.units < cLine; omega) (key_of J2.hok eb) dd fun h' dd' hs => wpAny_pure ?_))
  simp only [List.forIn_nil]
  refine wpAny_pure (wpAny_pure (wpAny_pure (wpAny_pure ⟨.ref s.heap.objs.size, _, ?_, rfl, q3⟩)))
  obtain ⟨ob, es, ep, hq, h2, h3, h4, _, h5⟩ := dd'
  refine d_write J2 (by rw [hp]; exact True.intro) hs ⟨ob, hq⟩ ⟨by show 1 ≤ sizeLine; decide, hd, [(ks, b, vv)], .cons ⟨rfl, ?_, rx⟩ .nil, ob, es, ep, hq, h2, h3, h4, h5⟩
  rw [upd_ne (fun q => by have q : b = s.heap.objs.size := q; rw [q, hp] at eb; cases eb)]
  exact eb
@[simp] def wDisp1 (ok : PyData → Bool) (wk wv : WE) : WE := fun en P => wk en fun k n1 => wv ⟨en.s, n1⟩ fun v n2 => ok k = true ∧ P (.dict [(k, v)]) n2
theorem je_disp1T (hr : Room kk X.A) (hk : JE z X k tk wk) (hv : JE z X v tv wv) : JE z X (.Dict [some k] [v] pos) (tLk (tDisp1T tk tv)) (wDisp1 keyT wk wv) where
  pe := pe_lk (pe_disp1T (by have := hr.units; omega) hk.pe hv.pe)
  de := fun B σ H F en s P Q hw kk => by
    intro p hp
    have g0 := Grow.fresh (z := z) (o := .dT []) s.sub hp
    have zp : ¬ Zv z p := fun hz => s.stm.there hz hp
    refine hk.de B σ _ F en (s.grow g0 (s.stm.new hp)) _ _ hw fun y H1 F1 dk n1 g1 s1 r1 q1 => ?_
    have sit1 := (s.grow g0 (s.stm.new hp)).grow g1 s1
    refine hv.de B σ H1 F1 _ sit1 _ _ q1 fun x H2 F2 dv n2 g2 s2 r2 q2 => ?_
    obtain ⟨kT, q⟩ := q2
    obtain ⟨ks, rfl⟩ := keyT_of kT
    cases r1 with
    | @tup b xs _ eb ra =>
      have ex := rpA_keys ra
      subst ex
      have p1 := g1.keep p _ zp upd_same
      have p2 := g2.keep p _ zp p1
      have f1 := g1.apart upd_same zp (fun _ q => nomatch q) (none_of_sub s.sub hp)
      have f2 := g2.apart p1 zp (fun _ q => nomatch q) f1
      refine ⟨p2, b, ks, rfl, g2.sub _ _ (g2.ext _ _ eb), p, _, upd_same, trivial, fun od => ?_⟩
      rw [upd_upd]
      have g := ((g0.trans g1).trans g2).wroteO (o := .frz od (.dT [(ks, x)])) hp f2
      refine kk _ _ _ _ n2 (g.freeze hp upd_same f2) (s2.upd zp fun φ q => by rw [p2] at q; cases q) (.dT upd_same (by simp) (.cons (r2.mono (ex_upd f2)) .nil)) q
theorem je_disp1K (hk : JE z X k tk wk) (hv : JE z X v tv wv) : JE z X (.Dict [some k] [v] pos) (tLk (tDisp [(tk, tv)])) (wDisp1 keyA wk wv) where
  pe := pe_lk (pe_disp (pps_cons hk.pe hv.pe pps_nil) rfl rfl (by simp) (by simp))
  de := fun B σ H F en s P Q hw kk => by
    intro p hp
    have g0 := Grow.fresh (z := z) (o := .dK []) s.sub hp
    have zp : ¬ Zv z p := fun hz => s.stm.there hz hp
    refine hk.de B σ _ F en (s.grow g0 (s.stm.new hp)) _ _ hw fun y H1 F1 dk n1 g1 s1 r1 q1 => ?_
    have sit1 := (s.grow g0 (s.stm.new hp)).grow g1 s1
    refine hv.de B σ H1 F1 _ sit1 _ _ q1 fun x H2 F2 dv n2 g2 s2 r2 q2 => ?_
    obtain ⟨kA, q⟩ := q2
    obtain ⟨key, rfl, rfl⟩ : ∃ key : Key, y = kV key ∧ dk = keyD key := by
      cases r1 <;> simp [keyA] at kA
      · exact ⟨.inl _, rfl, rfl⟩
      · exact ⟨.inr _, rfl, rfl⟩
    have p1 := g1.keep p _ zp upd_same
    have p2 := g2.keep p _ zp p1
    have f1 := g1.apart upd_same zp (fun _ q => nomatch q) (none_of_sub s.sub hp)
    have f2 := g2.apart p1 zp (fun _ q => nomatch q) f1
    refine ⟨p2, [(key, x)], rfl, by simp, p, _, upd_same, trivial, fun od => ?_⟩
    rw [upd_upd]
    have g := ((g0.trans g1).trans g2).wroteO (o := .frz od (.dK (mergeK [] [(key, x)]))) hp f2
    have e1 : mergeK [] [(key, x)] = [(key, x)] := by simp [mergeK, putK]
    rw [e1] at g ⊢
    refine kk _ _ _ _ n2 (g.freeze hp upd_same f2) (s2.upd zp fun φ q => by rw [p2] at q; cases q) (.dK upd_same (.cons (r2.mono (ex_upd f2)) .nil)) q
end
end DD
/-! The Deep layer, exceptions 4: arguments of which one certainly raises. -/
namespace DD
open PySem PySem.Spec PyProof.Rows L2
open Evl (Ex)
def DenAe (z : Zn) (t : TA) (w : WX1) : Prop := ∀ (B : Hp) (σ : L2.St) (H F : Hp) (en : En), Sit z B σ H F en → ∀ (PX : Value → Str → V → PyData → Prop) (Q : List V → Hp → Prop), w en PX →
  (∀ cls v d f dx H' F', Grow z F H F' H' → H' dx = some (.xd [(f, v)]) → Rp F' v d → PX cls f v d → z.W cls (some dx) H') → t σ H Q
structure JAe (z : Zn) (X : Cx) (es : List Expr) (t : TA) (w : WX1) : Prop where
  pa : PA X es t
  de : DenAe z t w
@[simp] def wNextX (we : WE) (wr : WX1) : WX1 := fun en PX => we en fun _ n => wr ⟨en.s, n⟩ PX
section
variable {z : Zn} {X : Cx} {e a b : Expr} {es : List Expr} {te tb : TE} {ta tr : TA} {wa : WA} {we wb : WE} {wx wr : WX1} {pos p : Pos} {k j np : Nat}
theorem jae_here (h : JX z X e te wx) (ha : JA z X es ta wa) (he : starEach (e :: es) X.env = (false, eval e X.env) :: starEach es X.env := by rfl) : JAe z X (e :: es) (tCons te ta) wx :=
  ⟨pa_cons h.pe ha.pa he, fun B σ H F en s PX Q hw kx => h.de B σ H F en s PX _ hw kx⟩
theorem jae_next (h : JE z X e te we) (r : JAe z X es tr wr) (he : starEach (e :: es) X.env = (false, eval e X.env) :: starEach es X.env := by rfl) : JAe z X (e :: es) (tCons te tr) (wNextX we wr) where
  pa := pa_cons h.pe r.pa he
  de := fun B σ H F en s PX Q hw kx => by
    refine h.de B σ H F en s _ _ hw fun v H1 F1 d n1 g1 s1 r1 q1 => ?_
    exact r.de B σ H1 F1 _ (s.grow g1 s1) PX _ q1 fun cls v d f dx H' F' g hd rp q => kx cls v d f dx H' F' (g1.trans g) hd rp q
theorem jx_args {y : Str} {sq : PSp} (D : DefP X.prog X.w X.K X.mg X.base j y np sq) (hr : Room k X.A) (h : JAe z X (e :: es) ta wx) (hk : j ≤ k := by first | decide | omega) (hg : Gl X y := by rfl)
    (hdb : (y == ("__debug__" : Str)) = false := by decide) (he : starEach (e :: es) X.env = (false, eval e X.env) :: starEach es X.env := by rfl) (hpl : (backTo pos (starEach es X.env)).any (·.1) = false := by rfl) :
    JX z X (.Call (.Name y p) (e :: es) [] pos) (tCall (spP np sq) [] E0 ta) wx := by
  obtain ⟨f, fd, ps, F, hm, hkp, hb⟩ := D.ex
  exact ⟨pe_call F (hr.mono hk) hg hm hkp hb .nil pass0 h.pa hdb he hpl, fun B σ H F en s PX Q hw kx => h.de B σ H F en s PX _ hw kx⟩
theorem jx_ix (ha : JX z X a te wx) (hb : JE z X b tb wb) (hs : PlainIx b := by exact fun _ _ => rfl) : JX z X (.Subscript a b pos) (tOp (kR rIx) te tb) wx := ⟨pe_ix (kI_ok ix_seq) ha.pe hb.pe hs, fun B σ H F en s PX Q hw kx => ha.de B σ H F en s PX _ hw kx⟩
end
end DD
/-! Closures, 9: lists of closures as arguments. -/
namespace CL
open PySem PySem.Spec PyProof.Rows L2 LamX NdefX DD
open Evl (Ex)
section
variable {P : Program} {w : World} {K : PySem.W.Frag} {mg : Str → Option Value} {base : Heap} {k i j : Nat} {Cs : List (Addr × Str × Str)}
/-- [met(y) for y in asks], asks a list of closures -/
theorem mets_list {σ : L2.St} {H F : Hp} {l : Addr} {fs : List V} {B : List Beh} {ms : List PyData} {Q : VK} (hσ : σ[j]? = some (some (.ref l))) (hl : H l = some (.lst fs)) (eF : Ex F H) (cl : Paired (ClosAt P w K mg base k H F) fs B) (hb : Paired (MetOk Cs) B ms) (hml : ms.length ≤ 100000) (hlen : i < σ.length)
    (kk : ∀ D acc H' F', Grow z0 F H F' H' → H D = none → F' D = none → H' D = some (.lst acc) → RpA F' acc ms → Q (.ref D) H') :
    tLc (iList K (tVar j)) (gName i) tYes (tCall (spMet P w K mg base k Cs) [] E0 (tCons (tVar i) tNil)) [i] σ H Q := by
  have hfs : fs.length = ms.length := (Paired.length cl).trans (Paired.length hb)
  refine ⟨.ref l, hσ, l, rfl, ⟨fs, SqL.of hl⟩, fun D hD => ?_⟩
  have fD : F D = none := none_of_sub eF hD
  have nlD : l ≠ D := ne_of_none hl hD
  refine lc_list (xs := fs) (fun i' H' => ∃ F' acc, Grow z0 F H F' H' ∧ F' D = none ∧ H' D = some (.lst acc) ∧ RpA F' acc (ms.take i') ∧ H' l = some (.lst fs)) ⟨F, [], Grow.fresh eF hD, fD, upd_same, .nil, by rw [upd_ne nlD]; exact hl⟩ (fun i' H' _ h => ?_) (fun i' x H' hx h => ?_) (fun H' h => ?_)
  · obtain ⟨F', acc, _, _, _, _, e⟩ := h
    exact SqL.of e
  · obtain ⟨F', acc, g3, f3, d3, r3, l3⟩ := h
    obtain ⟨b, hbb, cb⟩ := Paired.getP cl hx
    obtain ⟨m, hm, mb⟩ := Paired.getP hb hbb
    refine ⟨?_, ?_⟩
    · rw [wipe_ext (σ' := (L2.wipe σ [i]).set i (some x)) (σ := L2.wipe σ [i]) (by simp) fun j hj => ?_, wipe_idem]
      have : i ≠ j := fun e => hj (by simp [e])
      rw [List.getElem?_set_ne this]
    · unfold tYes
      simp only [if_true]
      refine ⟨x, by rw [List.getElem?_set_self (by rw [wipe_length]; exact hlen)], ?_⟩
      have up : ∀ Q : VK, spMet P w K mg base k Cs [x] H' Q E0 → tNil ((L2.wipe σ [i]).set i (some x)) H' (fun xs H2 => spMet P w K mg base k Cs ((x :: xs) ++ []) H2 Q E0) := fun Q h => h
      refine up _ (met_turn (cb.grow0 g3) g3.sub mb fun u H4 F4 g4 r4 => ?_)
      have d4 := g4.keep D _ zv_z0 d3
      have l4 := g4.keep l _ zv_z0 l3
      have f4 := g4.apart d3 zv_z0 (fun _ q => nomatch q) f3
      have hi' : i' < ms.length := (List.getElem?_eq_some_iff.mp hm).1
      have rl := r3.length
      refine ⟨acc, d4, Evl.sz_lt (by rw [rl, List.length_take]; omega), F4, acc ++ [u], ?_, f4, upd_same, ?_, by rw [upd_ne nlD]; exact l4⟩
      · exact (g3.trans g4).wroteO hD f4
      · rw [List.take_add_one, hm]
        exact (r3.mono g4.ext).append (.one r4)
  · obtain ⟨F', acc, g3, f3, d3, r3, l3⟩ := h
    rw [hfs, List.take_length] at r3
    exact kk D acc H' F' g3 hD f3 d3 r3
/-- the promise of «return same([met(ask) for ask in asks], [due] * len(asks))», all asks ending as is due -/
def spAll (P : Program) (w : World) (K : PySem.W.Frag) (mg : Str → Option Value) (base : Heap) (k : Nat) (okm : PyData → Prop) (Cs : List (Addr × Str × Str)) : Sp := fun vs H Q _ => ∃ (a : Addr) (v : V) (fs : List V) (B : List Beh) (F : Hp) (m : PyData), vs = [.ref a, v] ∧ H a = some (.lst fs) ∧ fs.length ≤ 1000 ∧ Ex F H ∧ Paired (ClosAt P w K mg base k H F) fs B ∧ Rp F v m ∧ okm (.list (List.replicate fs.length m)) ∧ (∀ b ∈ B, MetOk Cs b m) ∧
  ∀ H' F', Grow z0 F H F' H' → Q (.bl true) H'
theorem mets_rep {m : PyData} : ∀ {B : List Beh}, (∀ b ∈ B, MetOk Cs b m) → Paired (MetOk Cs) B (List.replicate B.length m)
  | [], _ => .nil
  | b :: B, h => .cons (h b List.mem_cons_self) (mets_rep fun c hc => h c (List.mem_cons_of_mem _ hc))
end
/-- a closure of a list: one that is told, one of the frame itself -/
inductive Cel where
  | done (b : Beh)
  | lam (pa : Arguments) (bo : Expr) (sc : Scope) (js : List Nat) (w1 : List PyData → Addr → Str → PyData → Prop) (es : List PyData) (Ce : Addr) (fld : Str) (d : PyData)
def Cel.beh : Cel → Beh
  | .done b => b
  | .lam _ _ _ _ _ _ Ce fld d => fun _ RX => ∀ v, RX (.ref Ce) fld v d
def Cel.ok (en : En) : Cel → Prop
  | .done _ => True
  | .lam _ _ _ js w1 es Ce fld d => js.map (fun j => en.s[j]?) = es.map (fun e => some (S.val e)) ∧ w1 es Ce fld d
def ElAt (X : Cx) (k : Nat) (H F : Hp) (v : V) : Cel → Prop
  | .done b => ClosAt X.prog X.w X.K X.mg X.base k H F v b
  | .lam pa bo sc js w1 _ _ _ _ => ∃ f c', v = .ref f ∧ H f = some (LfO f (mkLam (X.env.qual ++ "<lambda>") pa bo sc X.env.cells c')) ∧ H c' = some (CodeO c' (X.env.qual ++ "<lambda>")) ∧ OT.LamR X k pa bo sc js w1
section
variable {X : Cx} {z : Zn} {k n : Nat} {H F H' F' : Hp} {v : V}
theorem zv_ext {b : Addr} {φ : Heap → Prop} (s : Stm z n H) (e : H b = some (.ext φ)) : ¬ Zv z b := fun hz => by
  rcases s.kind hz with ⟨_, q⟩ | ⟨_, q⟩ <;> rw [e] at q <;> cases q
theorem ElAt.grow {c : Cel} (h : ElAt X k H F v c) (s : Stm z n H) (g : Grow z F H F' H') : ElAt X k H' F' v c := by
  cases c with
  | done b => exact ClosAt.grow h s g
  | lam pa bo sc js w1 es Ce fld d =>
    obtain ⟨f, c', e, h1, h2, h3⟩ := h
    exact ⟨f, c', e, g.keep _ _ (by unfold LfO at h1; exact zv_ext s h1) h1, g.keep _ _ (by unfold CodeO at h2; exact zv_ext s h2) h2, h3⟩
theorem ElAt.told {B G : Hp} {σ : L2.St} {en : En} {C : List Addr} {c : Cel} (s : Sit z B σ H F en) (tl : Tells X σ G C) (hno : ∀ c ∈ C, H c = none) (h : ElAt X k H F v c) (ok : c.ok en) : ClosAt X.prog X.w X.K X.mg X.base k (put H G C) F v c.beh := by
  cases c with
  | done b =>
    obtain ⟨f, D, C0, Fc, e, T, h1, h2, h3⟩ := h
    refine ⟨f, D, C0, Fc, e, T, fun b u q => ?_, h2, h3⟩
    have q1 := h1 b u q
    rw [put_out (fun hb => by rw [hno b hb] at q1; cases q1)]; exact q1
  | lam pa bo sc js w1 es Ce fld d =>
    obtain ⟨f, c', rfl, h1, h2, h3⟩ := h
    obtain ⟨ws, e1, ra⟩ := OT.datas_of s ok.1
    obtain ⟨D, T, d1, j1⟩ := h3 σ G H C f c' ws es F Ce fld d tl hno h1 h2 e1 ra ok.2
    exact ⟨f, D, C, F, rfl, T, d1, j1 F s.sub, Evl.Ex.refl F⟩
theorem els_grow : ∀ {vs : List V} {ce : List Cel}, Paired (ElAt X k H F) vs ce → Stm z n H → Grow z F H F' H' → Paired (ElAt X k H' F') vs ce
  | _, _, .nil, _, _ => .nil
  | _, _, .cons a r, s, g => .cons (a.grow s g) (els_grow r s g)
theorem ElAt.exts {c : Cel} (k0 : ∀ b φ, H b = some (.ext φ) → H' b = some (.ext φ)) (h : ElAt X k H F v c) : ElAt X k H' F v c := by
  cases c with
  | done b =>
    obtain ⟨f, D, C, Fc, e, T, h1, h2, h3⟩ := h
    refine ⟨f, D, C, Fc, e, T, fun b u q => ?_, h2, h3⟩
    obtain ⟨φ, rfl⟩ := T.ext b u q
    exact k0 _ _ (h1 b _ q)
  | lam pa bo sc js w1 es Ce fld d =>
    obtain ⟨f, c', e, h1, h2, h3⟩ := h
    exact ⟨f, c', e, k0 _ _ h1, k0 _ _ h2, h3⟩
theorem els_ext : ∀ {vs : List V} {ce : List Cel}, (∀ b φ, H b = some (.ext φ) → H' b = some (.ext φ)) → Paired (ElAt X k H F) vs ce → Paired (ElAt X k H' F) vs ce
  | _, _, _, .nil => .nil
  | _, _, h, .cons a r => .cons (a.exts h) (els_ext h r)
theorem els_told {B G : Hp} {σ : L2.St} {en : En} {C : List Addr} (s : Sit z B σ H F en) (tl : Tells X σ G C) (hno : ∀ c ∈ C, H c = none) : ∀ {vs : List V} {ce : List Cel}, Paired (ElAt X k H F) vs ce → (∀ c ∈ ce, c.ok en) → Paired (ClosAt X.prog X.w X.K X.mg X.base k (put H G C) F) vs (ce.map Cel.beh)
  | _, _, .nil, _ => .nil
  | _, _, .cons a r, h => .cons (a.told s tl hno (h _ List.mem_cons_self)) (els_told s tl hno r fun c hc => h c (List.mem_cons_of_mem _ hc))
theorem paired_app {α β : Type} {G : α → β → Prop} : ∀ {xs xs' : List α} {ys ys' : List β}, Paired G xs ys → Paired G xs' ys' → Paired G (xs ++ xs') (ys ++ ys')
  | _, _, _, _, .nil, h => h
  | _, _, _, _, .cons a r, h => .cons a (paired_app r h)
theorem zv_none {b : Addr} (s : Stm z n H) (e : H b = none) : ¬ Zv z b := fun hz => s.there hz e
end
/-- a fresh list of closures -/
abbrev WC := En → (List Cel → Nat → Prop) → Prop
def DenC (z : Zn) (X : Cx) (k : Nat) (t : TE) (wc : WC) : Prop := ∀ (B : Hp) (σ : L2.St) (H F : Hp) (en : En), Sit z B σ H F en → ∀ (P : List Cel → Nat → Prop) (Q : VK), wc en P →
  (∀ l vs H' F' ce n', Grow z F H F' H' → Stm z n' H' → H l = none → F' l = none → H' l = some (.lst vs) → Paired (ElAt X k H' F') vs ce → P ce n' → Q (.ref l) H') → t σ H Q
structure JC (z : Zn) (X : Cx) (k : Nat) (e : Expr) (t : TE) (wc : WC) : Prop where
  pe : PE X e t
  de : DenC z X k t wc
section
variable {X : Cx} {z : Zn} {k kk j np i : Nat} {x : Str} {e : Expr} {es : List Expr} {p pos pos1 pos2 : Pos} {T : List (Addr × Str)} {PT : Addr} {ta : TA} {wa : WA} {t t2 td : TE} {wc wc2 : WC} {wd : WE}
def wcCall (np : Nat) (csp : List V → List PyData → List Beh → Prop) (wa : WA) : WC := fun en P => wa en fun ds n1 => ds.length = np ∧ ∃ B, (∀ vs, vs.length = np → csp vs ds B) ∧ P (B.map Cel.done) n1
theorem els_done {H F : Hp} : ∀ {vs : List V} {B : List Beh}, Paired (ClosAt X.prog X.w X.K X.mg X.base k H F) vs B → Paired (ElAt X k H F) vs (B.map Cel.done)
  | _, _, .nil => .nil
  | _, _, .cons a r => .cons a (els_done r)
theorem jc_call {csp : List V → List PyData → List Beh → Prop} (D : OT.DefV X.prog X.w X.K X.mg X.base j x (spC X.prog X.w X.K X.mg X.base T k np csp)) (hr : Room kk X.A) (ha : JA z X (e :: es) ta wa) (hT : z.T = T := by rfl) (hk : j ≤ kk := by first | decide | omega) (hg : Gl X x := by rfl)
    (hdb : (x == ("__debug__" : Str)) = false := by decide) (he : starEach (e :: es) X.env = (false, eval e X.env) :: starEach es X.env := by rfl) (hpl : (backTo pos (starEach es X.env)).any (·.1) = false := by rfl) :
    JC z X k (.Call (.Name x p) (e :: es) [] pos) (tCall (spC X.prog X.w X.K X.mg X.base T k np csp) [] E0 ta) (wcCall np csp wa) := by
  subst hT
  obtain ⟨f, fd, ps, F, hm, hkp, hb⟩ := D.ex
  refine ⟨pe_call F (hr.mono hk) hg hm hkp hb .nil pass0 ha.pa hdb he hpl, fun B σ H F en s Pp Q hw kk => ?_⟩
  refine ha.de B σ H F en s _ _ hw fun vs H1 F1 ds n1 g1 s1 r1 q1 => ?_
  obtain ⟨hl, bs, hB, hP⟩ := q1
  have hvl : vs.length = np := by rw [r1.length]; exact hl
  rw [List.append_nil]
  refine ⟨hvl, F1, ds, bs, g1.sub, r1, hB vs hvl, s1.t, fun p hp => s1.off (F := F) (H := H) (F1 := F1) (z := z) g1 (.inr ⟨p.2, hp⟩) (s.stm.there (.inr ⟨p.2, hp⟩)) (s.off _ (.inr ⟨p.2, hp⟩)), fun l H2 fs g2 t2 hl1 hl2 cl => ?_⟩
  have zz : ∀ c, Zv (zT z.T) c → Zv z c := fun c h => .inr (zv_zT.mp h)
  have g2' : Grow z F1 H1 F1 H2 := g2.widen zz
  have s2 : Stm z n1 H2 := by
    refine ⟨OT.stm_keep s1.s fun b xs hb e => g2.keep b _ (fun hzb => ?_) e, t2⟩
    obtain ⟨q, hq⟩ := zv_zT.mp hzb
    obtain ⟨ps, e', _⟩ := s1.t _ hq
    have e' : H1 b = some (.tbl ps) := e'
    rw [e] at e'; cases e'
  exact kk l fs H2 F1 _ n1 (g1.trans g2') s2 (g1.dom _ hl1) (none_of_sub g1.sub hl1) hl2 (els_done cl) hP
def wcLam (pa : Arguments) (bo : Expr) (sc : Scope) (js : List Nat) (w1 : List PyData → Addr → Str → PyData → Prop) : WC := fun en P => ∃ es Ce fld d, P [.lam pa bo sc js w1 es Ce fld d] en.n
theorem lam_step {σ : L2.St} {B H F H1 : Hp} {en : En} {f1 : Addr} {LF1 : LF} (s : Sit z B σ H F en) (hm : ∃ q, (PT, q) ∈ z.T) (S1 : LamStep z.T PT H H1 f1 LF1) : Grow z F H F H1 ∧ Stm z en.n H1 := by
  have offT : ∀ q ∈ z.T, F q.1 = none := fun q hq => s.off q.1 (.inr ⟨q.2, hq⟩)
  have zz : ∀ c, Zv (zT z.T) c → Zv z c := fun c h => .inr (zv_zT.mp h)
  refine ⟨(S1.grow hm offT s.sub).widen zz, OT.stm_keep s.stm.s fun b xs hb e => S1.k b _ (fun q => ?_) e, S1.t⟩
  obtain ⟨q0, hq⟩ := hm
  obtain ⟨ps, e', _⟩ := s.stm.t _ hq
  have e' : H PT = some (.tbl ps) := e'
  rw [q, e'] at e; cases e
theorem jc_lam {pa : Arguments} {bo : Expr} {sc : Scope} {js : List Nat} {w1 : List PyData → Addr → Str → PyData → Prop} (L : LTab X T PT) (l1 : OT.LamR X k pa bo sc js w1) (hf1 : ∀ y ∈ sc.names, y.2 = .free → X.env.scope.names.lookup y.1 = some .cell ∨ X.env.scope.names.lookup y.1 = some .free)
    (hT : z.T = T := by rfl) (hd1 : defaultsOf pa X.env = ([], []) := by rfl) (hs1 : starEach [.Lambda pa bo sc pos1] X.env = (false, eval (.Lambda pa bo sc pos1) X.env) :: starEach [] X.env := by rfl) :
    JC z X k (.List [.Lambda pa bo sc pos1] pos2) (tLst (tCons (tLam1 T PT (mkLam (X.env.qual ++ "<lambda>") pa bo sc X.env.cells)) tNil)) (wcLam pa bo sc js w1) := by
  subst hT
  refine ⟨pe_lst (pa_cons (pe_lam L hf1 hd1) pa_nil hs1), fun B σ H F en s P Q hw kk => ?_⟩
  obtain ⟨es, Ce, fld, d, hP⟩ := hw
  refine ⟨s.stm.t, fun f1 c1 H1 a1 a2 a3 a4 a5 a6 => ⟨(by show 1 ≤ sizeLine; decide), fun p1 hp1 => ?_⟩⟩
  obtain ⟨gA, sA⟩ := lam_step (f1 := f1) (LF1 := mkLam (X.env.qual ++ "<lambda>") pa bo sc X.env.cells c1) s ⟨_, L.hm⟩ ⟨a1, a2, a3, a4, a5, a6⟩
  refine kk p1 _ _ F _ en.n (gA.trans (Grow.fresh gA.sub hp1)) (sA.new hp1) (a2 _ hp1) (none_of_sub gA.sub hp1) upd_same (.cons (show ElAt X k _ F (.ref f1) (.lam pa bo sc js w1 es Ce fld d) from ⟨f1, c1, rfl, by rw [upd_ne (ne_of_none a5 hp1)]; exact a5, by rw [upd_ne (ne_of_none a6 hp1)]; exact a6, l1⟩) .nil) hP
def wcCat (wa wb : WC) : WC := fun en P => wa en fun ce1 n1 => wb ⟨en.s, n1⟩ fun ce2 n2 => ce1.length + ce2.length ≤ 1000 ∧ P (ce1 ++ ce2) n2
theorem jc_cat {a b : Expr} (ha : JC z X k a t wc) (hb : JC z X k b t2 wc2) : JC z X k (.BinOp a .Add b pos) (tOp rCat t t2) (wcCat wc wc2) := by
  refine ⟨pe_op op_cat ha.pe hb.pe, fun B σ H F en s P Q hw kk => ?_⟩
  refine ha.de B σ H F en s _ _ hw fun l1 vs1 H1 F1 ce1 n1 g1 s1 z1 f1 h1 el1 q1 => ?_
  refine hb.de B σ H1 F1 _ (s.grow g1 s1) _ _ q1 fun l2 vs2 H2 F2 ce2 n2 g2 s2 z2 f2 h2 el2 q2 => ?_
  obtain ⟨hz, hP⟩ := q2
  have k1 : H2 l1 = some (.lst vs1) := g2.keep _ _ (zv_none s.stm z1) h1
  have e1 := Paired.length el1
  have e2 := Paired.length el2
  refine ⟨l1, l2, vs1, vs2, rfl, rfl, k1, h2, Evl.sz_of (by omega), fun p hp => ?_⟩
  have gF := Grow.fresh (z := z) (o := .lst (vs1 ++ vs2)) g2.sub hp
  refine kk p _ _ F2 _ n2 ((g1.trans g2).trans gF) (s2.new hp) ((g1.trans g2).dom _ hp) (none_of_sub g2.sub hp) upd_same (els_grow (paired_app (els_grow el1 s1 g2) el2) s2 gF) hP
/-- all_met(asks, due): what is due stands for m -/
def okAll (okm : PyData → Prop) (Cs : List (Addr × Str × Str)) (en : En) (ce : List Cel) (m : PyData) : Prop := ce.length ≤ 1000 ∧ okm (.list (List.replicate ce.length m)) ∧ ∀ c ∈ ce, c.ok en ∧ MetOk Cs c.beh m
theorem all_at {okm : PyData → Prop} {Cs : List (Addr × Str × Str)} {B H F : Hp} {σ : L2.St} {en : En} {v : V} {m : PyData} {l : Addr} {vs : List V} {ce : List Cel} {Q : VK} (s : Sit z B σ H F en) (hl : H l = some (.lst vs)) (el : Paired (ElAt X k H F) vs ce) (rv : Rp F v m) (ok : okAll okm Cs en ce m)
    (kk : ∀ H' F', Grow z F H F' H' → Stm z en.n H' → Q (.bl true) H') :
    ∀ G C, Tells X σ G C → (∀ c ∈ C, H c = none) → spAll X.prog X.w X.K X.mg X.base k okm Cs [.ref l, v] (put H G C) (fun v H' => (∀ c ∈ C, H' c = G c) ∧ Q v (off H' C)) E0 := by
  intro G C tl hno
  have hGC : ∀ x ∈ C, ∃ o, G x = some (CellX x o) := fun x hx => by
    obtain ⟨o, u, e, _⟩ := tl.all x hx
    exact ⟨o, e⟩
  have kp : ∀ b u, H b = some u → put H G C b = some u := fun b u e => by
    rw [put_out (fun hb => by rw [hno b hb] at e; cases e)]; exact e
  have e1 := Paired.length el
  refine ⟨l, v, vs, ce.map Cel.beh, F, m, rfl, kp _ _ hl, by have := ok.1; omega, fun b u e => kp b u (s.sub b u e), els_told s tl hno el fun c hc => (ok.2.2 c hc).1, rv, by rw [e1]; exact ok.2.1, fun b hb => ?_, fun H' F' g => ?_⟩
  · obtain ⟨c, hc, rfl⟩ := List.mem_map.mp hb
    exact (ok.2.2 c hc).2
  · obtain ⟨g2, kc⟩ := grow_off g hno hGC (fun c hc => none_of_sub s.sub (hno c hc)) fun _ _ => zv_z0
    exact ⟨kc, kk _ F' g2.weak (s.stm.ex g2.ex)⟩
def wAll (okm : PyData → Prop) (Cs : List (Addr × Str × Str)) (wc : WC) (wd : WE) : WE := fun en P => wc en fun ce n1 => wd ⟨en.s, n1⟩ fun m n2 => okAll okm Cs en ce m ∧ P (.bool true) n2
theorem okAll.at_ {okm : PyData → Prop} {Cs : List (Addr × Str × Str)} {en en' : En} {ce : List Cel} {m : PyData} (h : okAll okm Cs en ce m) (e : en'.s = en.s) : okAll okm Cs en' ce m := by
  refine ⟨h.1, h.2.1, fun c hc => ⟨?_, (h.2.2 c hc).2⟩⟩
  have := (h.2.2 c hc).1
  cases c with
  | done b => trivial
  | lam pa bo sc js w1 es Ce fld d => unfold Cel.ok at this ⊢; rw [e]; exact this
theorem je_all {okm : PyData → Prop} {Cs : List (Addr × Str × Str)} {a b : Expr} (D : OT.DefV X.prog X.w X.K X.mg X.base j x (spAll X.prog X.w X.K X.mg X.base k okm Cs)) (hr : Room kk X.A) (hc : JC z X k a t wc) (hd : JE z X b td wd) (hfn : ∀ y, X.fn y = true := by intro _; rfl) (hk : j ≤ kk := by first | decide | omega) (hg : Gl X x := by rfl)
    (hdb : (x == ("__debug__" : Str)) = false := by decide) (he : starEach [a, b] X.env = (false, eval a X.env) :: starEach [b] X.env := by rfl) (he2 : starEach [b] X.env = (false, eval b X.env) :: starEach [] X.env := by rfl) (hpl : (backTo pos (starEach [b] X.env)).any (·.1) = false := by rfl) :
    JE z X (.Call (.Name x p) [a, b] [] pos) (tCallT X (spAll X.prog X.w X.K X.mg X.base k okm Cs) (tCons t (tCons td tNil))) (wAll okm Cs wc wd) := by
  obtain ⟨f, fd, ps, F, hm, hkp, hb⟩ := D.ex
  refine ⟨pe_callT F (hr.mono hk) hfn hg hm hkp hb (pa_cons hc.pe (pa_cons hd.pe pa_nil he2) he) hdb he hpl, fun B σ H F en s P Q hw kk => ?_⟩
  refine hc.de B σ H F en s _ _ hw fun l vs H1 F1 ce n1 g1 s1 z1 f1 h1 el q1 => ?_
  have sit1 := s.grow g1 s1
  refine hd.de B σ H1 F1 _ sit1 _ _ q1 fun v H2 F2 m n2 g2 s2 r2 q2 => ?_
  have k1 : H2 l = some (.lst vs) := g2.keep _ _ (zv_none s.stm z1) h1
  exact all_at (sit1.grow g2 s2) k1 (els_grow el s1 g2) r2 (q2.1.at_ rfl) fun H' F' g3 s3 => kk _ H' F' _ n2 ((g1.trans g2).trans g3) s3 (.bl true) q2.2
/-- asks = ..; asks.append(lambda ..); if not all_met(asks, due): return False -/
def wBlock (i : Nat) (okm : PyData → Prop) (Cs : List (Addr × Str × Str)) (wc : WC) (pa : Arguments) (bo : Expr) (sc : Scope) (js : List Nat) (w1 : List PyData → Addr → Str → PyData → Prop) (wd : WE) : WS := fun P en => i < en.s.length ∧ wc en fun ce n1 => ce.length ≤ 900 ∧ ∃ es Ce fld d, wd ⟨en.s.set i .no, n1⟩ fun m n2 => okAll okm Cs ⟨en.s.set i .no, n1⟩ (ce ++ [.lam pa bo sc js w1 es Ce fld d]) m ∧ P.nx ⟨en.s.set i .no, n2⟩
theorem _root_.DD.Sit.no {B H F : Hp} {σ : L2.St} {en : En} (s : Sit z B σ H F en) (i : Nat) (o : Option V) : Sit z B (σ.set i o) H F ⟨en.s.set i .no, en.n⟩ where
  sub := s.sub
  stm := s.stm
  off := s.off
  len := by simpa using s.len
  slot := fun j u h => by
    by_cases hj : j = i
    · subst hj
      have hlt : j < en.s.length := by
        have := (List.getElem?_eq_some_iff.mp h).1
        simpa using this
      rw [List.getElem?_set_self hlt] at h
      cases h
      exact ⟨o, List.getElem?_set_self (by rw [s.len]; exact hlt), trivial⟩
    · rw [List.getElem?_set_ne (Ne.symm hj)] at h
      obtain ⟨o', e, r⟩ := s.slot j u h
      exact ⟨o', by rw [List.getElem?_set_ne (Ne.symm hj)]; exact e, r⟩
  sep := fun a b x y l hab h1 h2 o1 o2 h3 => by
    have na : a ≠ i := fun q => by
      subst q
      have hlt : a < en.s.length := by
        have := (List.getElem?_eq_some_iff.mp h1).1
        simpa using this
      rw [List.getElem?_set_self hlt] at h1
      cases h1; cases o1
    have nb : b ≠ i := fun q => by
      subst q
      have hlt : b < en.s.length := by
        have := (List.getElem?_eq_some_iff.mp h2).1
        simpa using this
      rw [List.getElem?_set_self hlt] at h2
      cases h2; cases o2
    rw [List.getElem?_set_ne (Ne.symm na)] at h1 h3
    rw [List.getElem?_set_ne (Ne.symm nb)] at h2 ⊢
    exact s.sep a b x y l hab h1 h2 o1 o2 h3
theorem jss_block {okm : PyData → Prop} {Cs : List (Addr × Str × Str)} {a b : Expr} {y : Str} {pa : Arguments} {bo : Expr} {sc : Scope} {js : List Nat} {w1 : List PyData → Addr → Str → PyData → Prop} {p3 p4 p5 p6 p7 p8 p9 p10 p11 p12 p13 p14 p15 p16 : Pos} {jf : Nat} (i : Nat) (hN : X.N.Nodup) (hy : X.N[i]? = some y) (hyl : X.env.scope.names.lookup y = some .local)
    (D : OT.DefV X.prog X.w X.K X.mg X.base j x (spAll X.prog X.w X.K X.mg X.base k okm Cs)) (hr : Room kk X.A) (hc : JC z X k a t wc) (L : LTab X T PT) (l1 : OT.LamR X k pa bo sc js w1) (hf1 : ∀ y ∈ sc.names, y.2 = .free → X.env.scope.names.lookup y.1 = some .cell ∨ X.env.scope.names.lookup y.1 = some .free) (hd : JE z X b td wd)
    (hT : z.T = T := by rfl) (hfn : ∀ y, X.fn y = true := by intro _; rfl) (hk : j ≤ kk := by first | decide | omega) (hg : Gl X x := by rfl) (hd1 : defaultsOf pa X.env = ([], []) := by rfl)
    (hdb : (x == ("__debug__" : Str)) = false := by decide) (hdy : (y == ("__debug__" : Str)) = false := by decide) (hcy : (y == ("__classdict__" : Str)) = false := by decide)
    (hs0 : swapsWith a (some (.Name y p4)) p3.line X.env = pure false := by rfl)
    (hs1 : starEach [.Lambda pa bo sc p6] X.env = (false, eval (.Lambda pa bo sc p6) X.env) :: starEach [] X.env := by rfl) (hbase : attributeBase (.Name y p5) "append" X.env (eval (.Name y p5) X.env) = eval (.Name y p5) X.env := by rfl)
    (hfew : ((backTo p8 (starEach [.Lambda pa bo sc p6] X.env)).all (fun x => !x.1) && (backToKw p8 (keywordEach [] X.env)).all (fun x => x.1.isSome) && decide ([Expr.Lambda pa bo sc p6].length + ([] : List Keyword).length + (if ([] : List Keyword).isEmpty then 0 else 1) < 30)) = true := by rfl)
    (hline : (p7.endLine == p8.line) = true := by rfl) (hplain : (backTo p8 (starEach [] X.env)).any (·.1) = false := by rfl) (hse : swapsWith (.Call (.Attribute (.Name y p5) "append" p7) [.Lambda pa bo sc p6] [] p8) none p9.line X.env = pure false := by rfl)
    (he : starEach [.Name y p11, b] X.env = (false, eval (.Name y p11) X.env) :: starEach [b] X.env := by rfl) (he2 : starEach [b] X.env = (false, eval b X.env) :: starEach [] X.env := by rfl) (hpl : (backTo p12 (starEach [b] X.env)).any (·.1) = false := by rfl) :
    JSs z X [.Assign [.Name y p4] a p3, .Expr (.Call (.Attribute (.Name y p5) "append" p7) [.Lambda pa bo sc p6] [] p8) p9, .If (.UnaryOp .Not (.Call (.Name x p10) [.Name y p11, b] [] p12) p13) [.Return (some (.Constant (.bool false) jf p14)) p15] [] p16]
      (tSeq (tAsg t (gName i)) (tSeq (tDrop (tBM X.K "list" rAppend (tVar i) (tCons (tLam1 T PT (mkLam (X.env.qual ++ "<lambda>") pa bo sc X.env.cells)) tNil))) (tIfS (tNot (tB (tCallT X (spAll X.prog X.w X.K X.mg X.base k okm Cs) (tCons (tVar i) (tCons td tNil))))) (tRet (tC (.bl false))) tNext)))
      (wBlock i okm Cs wc pa bo sc js w1 wd) := by
  subst hT
  obtain ⟨f, fd, ps, F, hm, hkp, hb⟩ := D.ex
  have vy : Vis X.env.scope y := Or.inl hyl
  refine ⟨pss_cons (ps_set hN hy (Or.inl hyl) hc.pe hs0 (.inr hyl)) (pss_cons (ps_expr (pe_bm PySem.F.plainAttrs_list PySem.F.slot_list_append PySem.F.type_list_append mt_append (pe_var hy vy hdy hcy) (pa_cons (pe_lam L hf1 hd1) pa_nil hs1) hbase hfew hline hs1 hplain) hse)
    (pss_one (ps_if (pt_not (pt_val (pe_callT F (hr.mono hk) hfn hg hm hkp hb (pa_cons (pe_var hy vy hdy hcy) (pa_cons hd.pe pa_nil he2) he) hdb he hpl))) (pss_one (ps_ret pe_bl)) pss_nil))), fun B F0 σ H F1 en D P s g hw kE => ?_⟩
  obtain ⟨hi0, hw⟩ := hw
  have hi : i < σ.length := by rw [s.len]; exact hi0
  refine hc.de B σ H F1 en s _ _ hw fun l vs H2 F2 ce n1 g2 s2 z2 f2 h2 el q1 => ?_
  obtain ⟨hz0, es, Ce, fld, d, q1⟩ := q1
  have sit2 : Sit z B (σ.set i (some (.ref l))) H2 F2 ⟨en.s.set i .no, n1⟩ := (s.grow g2 s2).no i _
  have hσ : (σ.set i (some (V.ref l)))[i]? = some (some (.ref l)) := List.getElem?_set_self hi
  refine ⟨.ref l, hσ, .inl ⟨rfl, _, SqL.of h2⟩, s2.t, fun f1 c1 H3 a1 a2 a3 a4 a5 a6 => ?_⟩
  obtain ⟨gA, sA⟩ := lam_step (f1 := f1) (LF1 := mkLam (X.env.qual ++ "<lambda>") pa bo sc X.env.cells c1) sit2 ⟨_, L.hm⟩ ⟨a1, a2, a3, a4, a5, a6⟩
  have zl : ¬ Zv z l := zv_none s.stm z2
  have h3 : H3 l = some (.lst vs) := gA.keep _ _ zl h2
  have hsz : vs.length < sizeLine := Evl.sz_lt (by rw [Paired.length el]; omega)
  refine ⟨l, vs, .ref f1, rfl, rfl, h3, hsz, ?_⟩
  have g4 : Grow z F1 H F2 (L2.upd H3 l (.lst (vs ++ [.ref f1]))) := (g2.trans gA).wroteO z2 f2
  have s4 : Stm z n1 (L2.upd H3 l (.lst (vs ++ [.ref f1]))) := sA.upd zl fun φ q => by rw [h3] at q; cases q
  have l4 : L2.upd H3 l (.lst (vs ++ [.ref f1])) l = some (.lst (vs ++ [.ref f1])) := upd_same
  have ex4 : ∀ b φ, H3 b = some (.ext φ) → L2.upd H3 l (.lst (vs ++ [.ref f1])) b = some (.ext φ) := fun b φ e => by
    rw [upd_ne (fun q => by rw [q, h3] at e; cases e)]; exact e
  have el4 : Paired (ElAt X k (L2.upd H3 l (.lst (vs ++ [.ref f1]))) F2) (vs ++ [.ref f1]) (ce ++ [.lam pa bo sc js w1 es Ce fld d]) :=
    paired_app (els_ext ex4 (els_grow el s2 gA)) (.cons (show ElAt X k _ F2 (.ref f1) (.lam pa bo sc js w1 es Ce fld d) from ⟨f1, c1, rfl, ex4 _ _ a5, ex4 _ _ a6, l1⟩) .nil)
  generalize L2.upd H3 l (.lst (vs ++ [.ref f1])) = H4 at g4 s4 l4 el4
  have sit4 : Sit z B (σ.set i (some (.ref l))) H4 F2 ⟨en.s.set i .no, n1⟩ := (s.grow g4 s4).no i _
  refine ⟨.ref l, hσ, hd.de B _ H4 F2 _ sit4 _ _ q1 fun v H5 F5 m n2 g5 s5 r5 q5 => ?_⟩
  have sit5 := sit4.grow g5 s5
  exact all_at (Q := fun x H1 => ∃ c, x = V.bl c ∧ (if (!c) = true then tRet (tC (V.bl false)) D (σ.set i (some (V.ref l))) H1 else tNext D (σ.set i (some (V.ref l))) H1)) sit5 (g5.keep _ _ zl l4) (els_grow el4 s4 g5) r5 q5.1 fun H6 F6 g6 s6 => ⟨true, rfl, kE.nx _ H6 F6 _ (sit5.grow g6 s6) (g.trans (g4.trans (g5.trans g6))) q5.2⟩
end
end CL
/-! Closures, 10: all([very(word, ask) for word, ask in asks if word != ..]). -/
namespace CL
open PySem PySem.Spec PyProof.Rows L2 LamX NdefX DD
open Evl (Ex)
section
variable {P : Program} {w : World} {K : PySem.W.Frag} {mg : Str → Option Value} {base : Heap} {k : Nat} {T : List (Addr × Str)} {Cs : List (Addr × Str × Str)} {F H F' H' : Hp} {v : V}
theorem VeryAt.exts (k0 : ∀ b o, ((∃ φ, o = .ext φ) ∨ ∃ xs, o = .tup xs) → H b = some o → H' b = some o) (c : VeryAt P w K mg base k Cs H F v) : VeryAt P w K mg base k Cs H' F v := by
  obtain ⟨a, word, f, D, Fc, ob, C, fld, e1, e2, e3, e4, e5, e6, e7⟩ := c
  exact ⟨a, word, f, D, Fc, ob, C, fld, e1, k0 _ _ (.inr ⟨_, rfl⟩) e2, e3, e4, fun b u e => k0 _ _ (.inl (e4.ext b u e)) (e5 b u e), e6, e7⟩
/-- a pair whose word is skip, or one that refuses with the very object -/
def VeryOr (P : Program) (w : World) (K : PySem.W.Frag) (mg : Str → Option Value) (base : Heap) (k : Nat) (Cs : List (Addr × Str × Str)) (skip : Str) (H F : Hp) (v : V) : Prop := (∃ t f, v = .ref t ∧ H t = some (.tup [.str skip, .ref f])) ∨ VeryAt P w K mg base k Cs H F v
theorem VeryOr.exts {skip : Str} (k0 : ∀ b o, ((∃ φ, o = .ext φ) ∨ ∃ xs, o = .tup xs) → H b = some o → H' b = some o) (c : VeryOr P w K mg base k Cs skip H F v) : VeryOr P w K mg base k Cs skip H' F v :=
  c.imp (fun ⟨t, f, e, h⟩ => ⟨t, f, e, k0 _ _ (.inr ⟨_, rfl⟩) h⟩) fun h => h.exts k0
theorem VeryOr.grow {skip : Str} (c : VeryOr P w K mg base k Cs skip H F v) (t : Tabs T H) (g : Grow (zT T) F H F' H') : VeryOr P w K mg base k Cs skip H' F' v :=
  c.imp (fun ⟨a, f, e, h⟩ => ⟨a, f, e, g.keep _ _ (tabs_not t h fun _ z => (nomatch z)) h⟩) fun h => h.grow t g
theorem tail_allF {K' : PySem.W.Frag} {Cs' : List (Addr × Str × Str)} {skip : Str} {σ : L2.St} {l : Addr} {ts : List V} {i iw ik : Nat} {Q : VK} {tts : TT} (hσ : σ[i]? = some (some (.ref l))) (hl : H l = some (.lst ts)) (ht : ∀ v ∈ ts, VeryOr P w K mg base k Cs' skip H F v) (eF : Ex F H) (hT : Tabs T H) (hF : ∀ p ∈ T, F p.1 = none) (hn : ts.length ≤ 1000)
    (hw : iw < σ.length) (hk : ik < σ.length) (hne : iw ≠ ik) (gsq : TG) (hg : ∀ (p : Addr) (a b : V) (σ : L2.St) (H : Hp) (R : L2.St → Hp → Prop), H p = some (.tup [a, b]) → R ((σ.set iw (some a)).set ik (some b)) H → gsq (.ref p) σ H R)
    (htt : ∀ (σ : L2.St) (H : Hp) (x : Str) (R : Bool → Hp → Prop), (x = skip ∨ ∃ y ∈ Cs', y.2.1 = x) → σ[iw]? = some (some (.str x)) → ((x = skip → R false H) ∧ (x ≠ skip → R true H)) → tts σ H R) (hsk : ∀ x ∈ Cs', x.2.1 ≠ skip) (hsub : ∀ x ∈ Cs', x ∈ Cs)
    (kk : ∀ H' F', Grow (zT T) F H F' H' → Tabs T H' → Q (.bl true) H') :
    tCB (rAll K') (tCons (tLc (iList K (tVar i)) gsq tts (tCall (spVery P w K mg base T k Cs) [] E0 (tCons (tVar iw) (tCons (tVar ik) tNil))) [iw, ik]) tNil) σ H Q := by
  refine ⟨.ref l, hσ, l, rfl, ⟨ts, SqL.of hl⟩, fun D hD => ?_⟩
  have nD : l ≠ D := ne_of_none hl hD
  have fD : F D = none := none_of_sub eF hD
  have zD : ¬ Zv (zT T) D := fun hz => by
    obtain ⟨q, hq⟩ := zv_zT.mp hz
    obtain ⟨ps, e', _⟩ := hT _ hq
    have e' : H D = some (.tbl ps) := e'
    rw [hD] at e'; cases e'
  refine lc_list (xs := ts) (fun i' H' => ∃ F' m, m ≤ i' ∧ Grow (zT T) F H F' H' ∧ Tabs T H' ∧ (∀ p ∈ T, F' p.1 = none) ∧ F' D = none ∧ H' D = some (.lst (List.replicate m (.bl true)))) ⟨F, 0, Nat.le_refl _, Grow.fresh eF hD, tabs_upd hT (.inr hD), hF, fD, upd_same⟩ (fun i' H' _ h => ?_) (fun i' x H' hx h => ?_) (fun H' h => ?_)
  · obtain ⟨F', m, _, g, t, _, _, _⟩ := h
    exact SqL.of (g.keep _ _ (tabs_not hT hl fun _ z => (nomatch z)) hl)
  · obtain ⟨F', m, hm, g, t, hF', f3, d3⟩ := h
    have ext : ∀ (a b : V), L2.wipe (((L2.wipe σ [iw, ik]).set iw (some a)).set ik (some b)) [iw, ik] = L2.wipe σ [iw, ik] := fun a b => by
      rw [wipe_ext (σ' := ((L2.wipe σ [iw, ik]).set iw (some a)).set ik (some b)) (σ := L2.wipe σ [iw, ik]) (by simp) fun j hj => ?_, wipe_idem]
      have h1 : iw ≠ j := fun e => hj (by simp [e])
      have h2 : ik ≠ j := fun e => hj (by simp [e])
      rw [List.getElem?_set_ne h2, List.getElem?_set_ne h1]
    have len : (L2.wipe σ [iw, ik]).length = σ.length := wipe_length ..
    have getw : ∀ (a b : V), (((L2.wipe σ [iw, ik]).set iw (some a)).set ik (some b))[iw]? = some (some a) := fun a b => by
      rw [List.getElem?_set_ne (Ne.symm hne), List.getElem?_set_self (by rw [len]; exact hw)]
    rcases (ht x (List.mem_of_getElem? hx)).grow hT g with ⟨a, f, rfl, e2⟩ | ⟨a, word, f, Da, Fc, ob, C, fld, e1, e2, e3, e4, e5, e6, e7⟩
    · refine hg a (.str skip) (.ref f) _ H' _ e2 ⟨ext _ _, htt _ _ skip _ (.inl rfl) (getw _ _) ⟨fun _ => ?_, fun q => absurd rfl q⟩⟩
      simp only [Bool.false_eq_true, if_false]
      exact ⟨F', m, by omega, g, t, hF', f3, d3⟩
    · subst e1
      refine hg a (.str word) (.ref f) _ H' _ e2 ⟨ext _ _, htt _ _ word _ (.inr ⟨_, e3, rfl⟩) (getw _ _) ⟨fun q => absurd q (hsk _ e3), fun _ => ?_⟩⟩
      simp only [if_true]
      refine ⟨.str word, getw _ _, .ref f, by rw [List.getElem?_set_self (by rw [List.length_set, len]; exact hk)], ?_⟩
      refine ⟨word, f, Da, Fc, F', ob, C, fld, rfl, hsub _ e3, e4, e5, e6, g.sub, hF', e7, t, fun H4 F4 g4 t4 => ?_⟩
      have d4 := g4.keep D _ zD d3
      have f4 := g4.apart d3 zD (fun _ q => nomatch q) f3
      have hi' : i' < ts.length := (List.getElem?_eq_some_iff.mp hx).1
      refine ⟨_, d4, Evl.sz_lt (by rw [List.length_replicate]; omega), F4, m + 1, by omega, (g.trans g4).wroteO hD f4, tabs_upd t4 (.inl ⟨_, d4⟩), fun p hp => ?_, f4, by rw [upd_same, List.replicate_succ']⟩
      obtain ⟨ps, ep, _⟩ := t _ hp
      have ep : H' p.1 = some (.tbl ps) := ep
      cases e : F4 p.1 with
      | none => rfl
      | some u =>
        rcases g4.new p.1 (by rw [ep]; simp) (hF' p hp) with z | ⟨xs, z⟩
        · rw [z] at e; cases e
        · have := g4.sub _ _ z
          obtain ⟨ps', ep', _⟩ := t4 _ hp
          have ep' : H4 p.1 = some (.tbl ps') := ep'
          rw [this] at ep'; cases ep'
  · obtain ⟨F', m, _, g, t, _, _, d3⟩ := h
    refine ⟨D, List.replicate m true, rfl, SqL.of (by rw [List.map_replicate]; exact d3), ?_⟩
    have : (List.replicate m true).all id = true := by rw [List.all_eq_true]; intro x hx; rw [List.eq_of_mem_replicate hx]; rfl
    rw [this]
    exact kk H' F' g t
end
end CL
namespace MC
open PySem PySem.Spec PyProof.Rows L2 DD
open PySem.W (alike dataLt dataLe AllAlike Sortable EachIs)
def top (i : Nat) : Stmt := PySem.Challenge.pw_wordforword_k37_learning_refused.main.body.getD i (.Pass ⟨0, 0, 0, 0⟩)
abbrev s_is_list : Stmt := top 1
abbrev N_is_list : List Str := ["thing"]
abbrev ps_is_list : List Str := ["thing"]
theorem sc_is_list : FnScope N_is_list ps_is_list (defScope s_is_list) := ⟨rfl, rfl, rfl, by decide +kernel, rfl, by decide +kernel, by decide +kernel⟩
abbrev s_is_whole : Stmt := top 2
abbrev N_is_whole : List Str := ["thing"]
abbrev ps_is_whole : List Str := ["thing"]
theorem sc_is_whole : FnScope N_is_whole ps_is_whole (defScope s_is_whole) := ⟨rfl, rfl, rfl, by decide +kernel, rfl, by decide +kernel, by decide +kernel⟩
abbrev s_is_number : Stmt := top 3
abbrev N_is_number : List Str := ["thing"]
abbrev ps_is_number : List Str := ["thing"]
theorem sc_is_number : FnScope N_is_number ps_is_number (defScope s_is_number) := ⟨rfl, rfl, rfl, by decide +kernel, rfl, by decide +kernel, by decide +kernel⟩
abbrev s_is_below : Stmt := top 4
abbrev N_is_below : List Str := ["thing", "most"]
abbrev ps_is_below : List Str := ["thing", "most"]
theorem sc_is_below : FnScope N_is_below ps_is_below (defScope s_is_below) := ⟨rfl, rfl, rfl, by decide +kernel, rfl, by decide +kernel, by decide +kernel⟩
abbrev s_is_row : Stmt := top 5
abbrev N_is_row : List Str := ["thing", "many"]
abbrev ps_is_row : List Str := ["thing", "many"]
theorem sc_is_row : FnScope N_is_row ps_is_row (defScope s_is_row) := ⟨rfl, rfl, rfl, by decide +kernel, rfl, by decide +kernel, by decide +kernel⟩
abbrev s_kept_word : Stmt := top 16
abbrev N_kept_word : List Str := ["many", "thing", "one"]
abbrev ps_kept_word : List Str := ["many", "thing"]
theorem sc_kept_word : FnScope N_kept_word ps_kept_word (defScope s_kept_word) := ⟨rfl, rfl, rfl, by decide +kernel, rfl, by decide +kernel, by decide +kernel⟩
abbrev s_kept_pair : Stmt := top 19
abbrev N_kept_pair : List Str := ["thing", "stands", "signs", "word"]
abbrev ps_kept_pair : List Str := ["thing", "stands", "signs"]
theorem sc_kept_pair : FnScope N_kept_pair ps_kept_pair (defScope s_kept_pair) := ⟨rfl, rfl, rfl, by decide +kernel, rfl, by decide +kernel, by decide +kernel⟩
/-! ### what they tell -/
def whole : PyData → Bool
  | .int _ => true
  | _ => false
def number : PyData → Bool
  | .int i => decide (0 ≤ i)
  | _ => false
def below (m : Int) : PyData → Bool
  | .int i => decide (0 ≤ i) && decide (i < m)
  | _ => false
@[simp] theorem whole_0  : whole PyData.none = false := rfl
@[simp] theorem whole_1 (b : Bool) : whole (.bool b) = false := rfl
@[simp] theorem whole_2 (i : Int) : whole (.int i) = true := rfl
@[simp] theorem whole_3 (s : Str) : whole (.str s) = false := rfl
@[simp] theorem whole_4 (xs : List PyData) : whole (.list xs) = false := rfl
@[simp] theorem whole_5 (xs : List PyData) : whole (.tuple xs) = false := rfl
@[simp] theorem whole_6 (es : List (PyData × PyData)) : whole (.dict es) = false := rfl
@[simp] theorem number_0  : number PyData.none = false := rfl
@[simp] theorem number_1 (b : Bool) : number (.bool b) = false := rfl
@[simp] theorem number_2 (i : Int) : number (.int i) = decide (0 ≤ i) := rfl
@[simp] theorem number_3 (s : Str) : number (.str s) = false := rfl
@[simp] theorem number_4 (xs : List PyData) : number (.list xs) = false := rfl
@[simp] theorem number_5 (xs : List PyData) : number (.tuple xs) = false := rfl
@[simp] theorem number_6 (es : List (PyData × PyData)) : number (.dict es) = false := rfl
@[simp] theorem below_0 (m : Int)  : below m PyData.none = false := rfl
@[simp] theorem below_1 (m : Int) (b : Bool) : below m (.bool b) = false := rfl
@[simp] theorem below_2 (m : Int) (i : Int) : below m (.int i) = (decide (0 ≤ i) && decide (i < m)) := rfl
@[simp] theorem below_3 (m : Int) (s : Str) : below m (.str s) = false := rfl
@[simp] theorem below_4 (m : Int) (xs : List PyData) : below m (.list xs) = false := rfl
@[simp] theorem below_5 (m : Int) (xs : List PyData) : below m (.tuple xs) = false := rfl
@[simp] theorem below_6 (m : Int) (es : List (PyData × PyData)) : below m (.dict es) = false := rfl
def row (d : PyData) (m : Int) : Bool := match seqD d with
  | some xs => decide ((xs.length : Int) = m)
  | none => false
mutual
def lenOk : PyData → Bool
  | .list xs => decide (xs.length ≤ 100000) && lenOks xs
  | .tuple xs => decide (xs.length ≤ 100000) && lenOks xs
  | _ => true
def lenOks : List PyData → Bool
  | [] => true
  | x :: xs => lenOk x && lenOks xs
end
theorem lenOk_seq {d : PyData} {xs : List PyData} (h : lenOk d = true) (e : seqD d = some xs) : xs.length ≤ 100000 ∧ lenOks xs = true := by
  cases d <;> simp [lenOk] at h e <;> subst e <;> exact h
theorem lenOks_mem {xs : List PyData} (h : lenOks xs = true) : ∀ d ∈ xs, lenOk d = true := by
  induction xs with
  | nil => intro d hd; cases hd
  | cons x xs ih =>
    rw [lenOks, Bool.and_eq_true] at h
    intro d hd
    rcases List.mem_cons.mp hd with e | hd
    · rw [e]; exact h.1
    · exact ih h.2 d hd
/-- a number of a word -/
def numOk (m : PyData) (d : PyData) : Bool := match m with
  | .int k => below k d
  | _ => number d
def keptW (m d : PyData) : PyData := match seqD d with
  | some xs => if xs.all (numOk m) then .tuple xs else .none
  | none => .none
theorem row_len {d : PyData} {m : Int} {n : Nat} (h : row d m = true) (hm : m = n) : ∃ xs, seqD d = some xs ∧ xs.length = n := by
  unfold row at h
  cases e : seqD d with
  | none => rw [e] at h; cases h
  | some xs =>
    rw [e] at h
    exact ⟨xs, rfl, by have := of_decide_eq_true h; omega⟩
theorem len2 {α : Type} {xs : List α} (h : xs.length = 2) : ∃ a b, xs = [a, b] := by
  match xs, h with
  | [a, b], _ => exact ⟨a, b, rfl⟩
theorem len4 {α : Type} {xs : List α} (h : xs.length = 4) : ∃ a b c d, xs = [a, b, c, d] := by
  match xs, h with
  | [a, b, c, d], _ => exact ⟨a, b, c, d, rfl⟩
theorem len6 {α : Type} {xs : List α} (h : xs.length = 6) : ∃ a b c d e f, xs = [a, b, c, d, e, f] := by
  match xs, h with
  | [a, b, c, d, e, f], _ => exact ⟨a, b, c, d, e, f, rfl⟩
def keptP (st sg : Int) (d : PyData) : PyData := match seqD d with
  | some [a, b] => if below st a && !noneD (keptW (.int sg) b) then .tuple [a, keptW (.int sg) b] else .none
  | _ => .none
def keptV (st le sg : Int) (d : PyData) : PyData := match seqD d with
  | some [a, b, c, e] => if below st a && below le b && !noneD (keptW (.int sg) c) && below st e then .tuple [a, b, keptW (.int sg) c, e] else .none
  | _ => .none
def ascD (ds : List PyData) : Bool := (List.zipWith dataLt ds (ds.drop 1)).all id
def keptA (ds : List PyData) : PyData := if ds.any noneD || !ascD ds then .none else .tuple ds
theorem asc_eq (xs ys : List PyData) : (zipD xs ys).all (fun d => match d with | PyData.tuple [x, y] => dataLt x y | _ => false) = (List.zipWith dataLt xs ys).all id := by
  unfold zipD
  induction xs generalizing ys with
  | nil => rfl
  | cons x xs ih => cases ys with
    | nil => rfl
    | cons y ys => simp only [List.zipWith_cons_cons, List.all_cons, ih]; rfl
/-- items that can be compared, each with the next -/
def AscOk (ds : List PyData) : Prop := ∀ x y, (x, y) ∈ ds.zip (ds.drop 1) → okLt x y = true
/-! ### the promises -/
def S_is_below : PSp := fun ds Q => ∃ d m, ds = [d, .int m] ∧ Q (.bool (below m d))
@[simp] theorem S_is_below_at (d : PyData) (m : Int) (Q : PyData → Prop) : S_is_below [d, .int m] Q ↔ Q (.bool (below m d)) := ⟨fun ⟨_, _, h, q⟩ => by cases h; exact q, fun q => ⟨_, _, rfl, q⟩⟩
def S_is_row : PSp := fun ds Q => ∃ d m, ds = [d, .int m] ∧ Q (.bool (row d m))
@[simp] theorem S_is_row_at (d : PyData) (m : Int) (Q : PyData → Prop) : S_is_row [d, .int m] Q ↔ Q (.bool (row d m)) := ⟨fun ⟨_, _, h, q⟩ => by cases h; exact q, fun q => ⟨_, _, rfl, q⟩⟩
def S_kept_word : PSp := fun ds Q => ∃ m d, ds = [m, d] ∧ (m = .none ∨ ∃ k, m = .int k) ∧ lenOk d = true ∧ Q (keptW m d)
@[simp] theorem S_kept_word_int (d : PyData) (k : Int) (Q : PyData → Prop) : S_kept_word [.int k, d] Q ↔ (lenOk d = true ∧ Q (keptW (.int k) d)) := ⟨fun ⟨_, _, h, _, l, q⟩ => by cases h; exact ⟨l, q⟩, fun ⟨l, q⟩ => ⟨_, _, rfl, .inr ⟨k, rfl⟩, l, q⟩⟩
@[simp] theorem S_kept_word_none (d : PyData) (Q : PyData → Prop) : S_kept_word [.none, d] Q ↔ (lenOk d = true ∧ Q (keptW .none d)) := ⟨fun ⟨_, _, h, _, l, q⟩ => by cases h; exact ⟨l, q⟩, fun ⟨l, q⟩ => ⟨_, _, rfl, .inl rfl, l, q⟩⟩
def S_is_asc : PSp := fun ds Q => ∃ xs, ds = [.list xs] ∧ xs.length ≤ 100000 ∧ AscOk xs ∧ Q (.bool (ascD xs))
@[simp] theorem S_is_asc_at (xs : List PyData) (Q : PyData → Prop) : S_is_asc [.list xs] Q ↔ (xs.length ≤ 100000 ∧ AscOk xs ∧ Q (.bool (ascD xs))) := ⟨fun ⟨_, h, l, o, q⟩ => by cases h; exact ⟨l, o, q⟩, fun ⟨l, o, q⟩ => ⟨_, rfl, l, o, q⟩⟩
def S_kept_pair : PSp := fun ds Q => ∃ d st sg, ds = [d, .int st, .int sg] ∧ lenOk d = true ∧ Q (keptP st sg d)
@[simp] theorem S_kept_pair_at (d : PyData) (st sg : Int) (Q : PyData → Prop) : S_kept_pair [d, .int st, .int sg] Q ↔ (lenOk d = true ∧ Q (keptP st sg d)) := ⟨fun ⟨_, _, _, h, l, q⟩ => by cases h; exact ⟨l, q⟩, fun ⟨l, q⟩ => ⟨_, _, _, rfl, l, q⟩⟩
def S_kept_move : PSp := fun ds Q => ∃ d st le sg, ds = [d, .int st, .int le, .int sg] ∧ lenOk d = true ∧ Q (keptV st le sg d)
@[simp] theorem S_kept_move_at (d : PyData) (st le sg : Int) (Q : PyData → Prop) : S_kept_move [d, .int st, .int le, .int sg] Q ↔ (lenOk d = true ∧ Q (keptV st le sg d)) := ⟨fun ⟨_, _, _, _, h, l, q⟩ => by cases h; exact ⟨l, q⟩, fun ⟨l, q⟩ => ⟨_, _, _, _, rfl, l, q⟩⟩
def S_kept_all : PSp := fun ds Q => ∃ xs, ds = [.list xs] ∧ xs.length ≤ 100000 ∧ okD (.list xs) = true ∧ ((∀ x ∈ xs, noneD x = false) → AscOk xs) ∧ Q (keptA xs)
@[simp] theorem S_kept_all_at (xs : List PyData) (Q : PyData → Prop) : S_kept_all [.list xs] Q ↔ (xs.length ≤ 100000 ∧ okD (.list xs) = true ∧ ((∀ x ∈ xs, noneD x = false) → AscOk xs) ∧ Q (keptA xs)) := ⟨fun ⟨_, h, q⟩ => by cases h; exact q, fun q => ⟨_, rfl, q⟩⟩
def posI : PyData → Bool
  | .int i => decide (0 < i)
  | _ => false
def itemsOf (d : PyData) : List PyData := (seqD d).getD []
def mkM (a b c : Int) (ss ms es : List PyData) : PyData :=
  if noneD (keptA (ss.map (keptP a c))) || noneD (keptA (ms.map (keptV a b c))) || noneD (keptA (es.map (keptP a c))) then .none
  else .tuple [.int a, .int b, .int c, keptA (ss.map (keptP a c)), keptA (ms.map (keptV a b c)), keptA (es.map (keptP a c))]
def intOf : PyData → Int
  | .int i => i
  | _ => 0
def keptM6 (a b c s m e : PyData) : PyData := if (posI a && posI b && posI c) && (isSeq s && isSeq m && isSeq e) then mkM (intOf a) (intOf b) (intOf c) (itemsOf s) (itemsOf m) (itemsOf e) else .none
/-- a machine as it is kept -/
def keptM (d : PyData) : PyData := match seqD d with
  | some [a, b, c, s, m, e] => keptM6 a b c s m e
  | _ => .none
theorem posI_int {d : PyData} (h : posI d = true) : d = .int (intOf d) := by cases d <;> first | rfl | cases h
theorem items_of {d : PyData} (h : isSeq d = true) : seqD d = some (itemsOf d) := by cases d <;> first | rfl | cases h
theorem keptM_no {d : PyData} (h : ¬ row d 6 = true) : keptM d = .none := by
  unfold keptM
  cases e : seqD d with
  | none => rfl
  | some xs =>
    match xs, e with
    | [a, b, c, s, m, q], e => exact absurd (by unfold row; rw [e]; rfl) h
    | [], _ => rfl
    | [_], _ => rfl
    | [_, _], _ => rfl
    | [_, _, _], _ => rfl
    | [_, _, _, _], _ => rfl
    | [_, _, _, _, _], _ => rfl
    | _ :: _ :: _ :: _ :: _ :: _ :: _ :: _, _ => rfl
/-- a word of numbers, kept -/
theorem keptW_or (m d : PyData) : keptW m d = .none ∨ ∃ ns : List Int, keptW m d = .tuple (ns.map PyData.int) := by
  unfold keptW
  cases e : seqD d with
  | none => exact .inl rfl
  | some xs =>
    by_cases h : xs.all (numOk m) = true
    · refine .inr ?_
      have key : ∀ xs : List PyData, xs.all (numOk m) = true → ∃ ns : List Int, xs = ns.map PyData.int := by
        intro xs
        induction xs with
        | nil => exact fun _ => ⟨[], rfl⟩
        | cons x xs ih =>
          intro h
          rw [List.all_cons, Bool.and_eq_true] at h
          obtain ⟨ns, hn⟩ := ih h.2
          have : ∃ i, x = .int i := by
            have h1 := h.1
            unfold numOk at h1
            cases x with
            | int i => exact ⟨i, rfl⟩
            | _ => cases m <;> simp at h1
          obtain ⟨i, rfl⟩ := this
          exact ⟨i :: ns, by rw [hn]; rfl⟩
      obtain ⟨ns, hn⟩ := key xs h
      exact ⟨ns, by show (if xs.all (numOk m) = true then PyData.tuple xs else PyData.none) = _; rw [if_pos h, hn]⟩
    · exact .inl (by show (if xs.all (numOk m) = true then PyData.tuple xs else PyData.none) = _; rw [if_neg h])
theorem below_int {m : Int} {d : PyData} (h : below m d = true) : ∃ i, d = .int i := by cases d <;> first | exact ⟨_, rfl⟩ | cases h
theorem plains_ints (ns : List Int) : plains (ns.map PyData.int) = true := plains_all fun d hd => by
  obtain ⟨n, _, rfl⟩ := List.mem_map.mp hd
  rfl
theorem depth_ints (ns : List Int) : PyData.depthAll (ns.map PyData.int) = 0 := by
  have := depthAll_le (xs := ns.map PyData.int) (n := 0) fun d hd => by
    obtain ⟨n, _, rfl⟩ := List.mem_map.mp hd
    simp [PyData.depth]
  omega
theorem alike_ints (ns ms : List Int) : PySem.W.alikeAll (ns.map PyData.int) (ms.map PyData.int) = true := by
  induction ns generalizing ms with
  | nil => cases ms <;> rfl
  | cons n ns ih => cases ms with
    | nil => rfl
    | cons m ms => simp [PySem.W.alikeAll, alike, ih]
theorem keptP_or (st sg : Int) (d : PyData) : keptP st sg d = .none ∨ ∃ (i : Int) (ns : List Int), keptP st sg d = .tuple [.int i, .tuple (ns.map PyData.int)] := by
  unfold keptP
  split
  · rename_i a b e
    by_cases h : (below st a && !noneD (keptW (.int sg) b)) = true
    · rw [if_pos h]
      rw [Bool.and_eq_true] at h
      obtain ⟨i, rfl⟩ := below_int h.1
      rcases keptW_or (.int sg) b with q | ⟨ns, q⟩
      · rw [q] at h; exact absurd h.2 (by simp)
      · exact .inr ⟨i, ns, by rw [q]⟩
    · rw [if_neg h]; exact .inl rfl
  · exact .inl rfl
theorem keptV_or (st le sg : Int) (d : PyData) : keptV st le sg d = .none ∨ ∃ (i j k : Int) (ns : List Int), keptV st le sg d = .tuple [.int i, .int j, .tuple (ns.map PyData.int), .int k] := by
  unfold keptV
  split
  · rename_i a b c e q
    by_cases h : (below st a && below le b && !noneD (keptW (.int sg) c) && below st e) = true
    · rw [if_pos h]
      simp only [Bool.and_eq_true] at h
      obtain ⟨i, rfl⟩ := below_int h.1.1.1
      obtain ⟨j, rfl⟩ := below_int h.1.1.2
      obtain ⟨k, rfl⟩ := below_int h.2
      rcases keptW_or (.int sg) c with q | ⟨ns, q⟩
      · rw [q] at h; exact absurd h.1.2 (by simp)
      · exact .inr ⟨i, j, k, ns, by rw [q]⟩
    · rw [if_neg h]; exact .inl rfl
  · exact .inl rfl
/-- lists of kept rows can be looked through and compared -/
structure Rows (ds : List PyData) : Prop where
  pl : ∀ d ∈ ds, DD.plain d = true ∧ d.depth ≤ 2
  al : ∀ d ∈ ds, ∀ e ∈ ds, d ≠ .none → e ≠ .none → alike d e = true
theorem Rows.ok {ds : List PyData} (h : Rows ds) : okD (.list ds) = true := okD_list h.pl (by decide)
theorem Rows.asc {ds : List PyData} (h : Rows ds) (hn : ∀ x ∈ ds, noneD x = false) : AscOk ds := by
  intro x y hm
  have hx : x ∈ ds := (List.of_mem_zip hm).1
  have hy : y ∈ ds := List.mem_of_mem_drop (List.of_mem_zip hm).2
  have nn : ∀ z ∈ ds, z ≠ .none := fun z hz q => by
    have := hn z hz
    rw [q] at this
    cases this
  exact okLt_of (h.pl x hx).1 (h.pl y hy).1 (h.al x hx y hy (nn x hx) (nn y hy)) (nn x hx) (by have := (h.pl x hx).2; omega)
theorem rows_P (st sg : Int) (xs : List PyData) : Rows (xs.map (keptP st sg)) where
  pl := fun d hd => by
    obtain ⟨x, _, rfl⟩ := List.mem_map.mp hd
    rcases keptP_or st sg x with q | ⟨i, ns, q⟩
    · rw [q]; exact ⟨rfl, by simp [PyData.depth]⟩
    · rw [q]; exact ⟨by simp [DD.plain, plains, plains_ints], by simp [PyData.depth, PyData.depthAll, depth_ints]⟩
  al := fun d hd e he h1 h2 => by
    obtain ⟨x, _, rfl⟩ := List.mem_map.mp hd
    obtain ⟨y, _, rfl⟩ := List.mem_map.mp he
    rcases keptP_or st sg x with q | ⟨i, ns, q⟩
    · exact absurd q h1
    · rcases keptP_or st sg y with q' | ⟨i', ns', q'⟩
      · exact absurd q' h2
      · rw [q, q']; simp [alike, PySem.W.alikeAll, alike_ints]
theorem rows_V (st le sg : Int) (xs : List PyData) : Rows (xs.map (keptV st le sg)) where
  pl := fun d hd => by
    obtain ⟨x, _, rfl⟩ := List.mem_map.mp hd
    rcases keptV_or st le sg x with q | ⟨i, j, k, ns, q⟩
    · rw [q]; exact ⟨rfl, by simp [PyData.depth]⟩
    · rw [q]; exact ⟨by simp [DD.plain, plains, plains_ints], by simp [PyData.depth, PyData.depthAll, depth_ints]⟩
  al := fun d hd e he h1 h2 => by
    obtain ⟨x, _, rfl⟩ := List.mem_map.mp hd
    obtain ⟨y, _, rfl⟩ := List.mem_map.mp he
    rcases keptV_or st le sg x with q | ⟨i, j, k, ns, q⟩
    · exact absurd q h1
    · rcases keptV_or st le sg y with q' | ⟨i', j', k', ns', q'⟩
      · exact absurd q' h2
      · rw [q, q']; simp [alike, PySem.W.alikeAll, alike_ints]
def S_kept_machine : PSp := fun ds Q => ∃ d, ds = [d] ∧ lenOk d = true ∧ Q (keptM d)
@[simp] theorem S_kept_machine_at (d : PyData) (Q : PyData → Prop) : S_kept_machine [d] Q ↔ (lenOk d = true ∧ Q (keptM d)) := ⟨fun ⟨_, h, q⟩ => by cases h; exact q, fun q => ⟨_, rfl, q⟩⟩
def S_is_machine : PSp := fun ds Q => ∃ d, ds = [d] ∧ lenOk d = true ∧ Q (.bool (!noneD (keptM d)))
@[simp] theorem S_is_machine_at (d : PyData) (Q : PyData → Prop) : S_is_machine [d] Q ↔ (lenOk d = true ∧ Q (.bool (!noneD (keptM d)))) := ⟨fun ⟨_, h, q⟩ => by cases h; exact q, fun q => ⟨_, rfl, q⟩⟩
section
variable {P : Program} {w : World} {K : PySem.W.Frag} {mg : Str → Option Value} {base : Heap}
theorem d_is_list (bi : ∀ x ∈ BI, mg x = none) (D : DefT K mg "is_list" s_is_list ps_is_list) : DefP P w K mg base 1 "is_list" 1 (sF1 fun d => .bool (isSeq d)) := by
  refine D.p N_is_list sc_is_list fun f cdv A outer s H E hr => ⟨_, _, jss_one (js_ret (je_isi_LT bi (je_var 0))), fun ds Q hl h => ?_⟩
  obtain ⟨d, rfl, q⟩ := h
  simpa [startE] using q
theorem d_is_whole (bi : ∀ x ∈ BI, mg x = none) (D : DefT K mg "is_whole" s_is_whole ps_is_whole) : DefP P w K mg base 1 "is_whole" 1 (sF1 fun d => .bool (whole d)) := by
  refine D.p N_is_whole sc_is_whole fun f cdv A outer s H E hr => ⟨_, _, jss_one (js_ret (je_and (je_isi_int bi (je_var 0)) (je_one (je_not (je_isi_bool bi (je_var 0)))))), fun ds Q hl h => ?_⟩
  obtain ⟨d, rfl, q⟩ := h
  cases d <;> simpa [startE] using q
theorem d_is_number (bi : ∀ x ∈ BI, mg x = none) (D : DefT K mg "is_number" s_is_number ps_is_number) (D_is_whole : DefP P w K mg base 1 "is_whole" 1 (sF1 fun d => .bool (whole d))) : DefP P w K mg base 2 "is_number" 1 (sF1 fun d => .bool (number d)) := by
  refine D.p N_is_number sc_is_number fun f cdv A outer s H E hr => ⟨_, _, jss_one (js_ret (je_and (je_f D_is_whole hr (ja_cons (je_var 0) ja_nil)) (je_one (jc_v c_ge (je_var 0) je_int)))), fun ds Q hl h => ?_⟩
  obtain ⟨d, rfl, q⟩ := h
  cases d <;> simpa [startE] using q
theorem d_is_below (bi : ∀ x ∈ BI, mg x = none) (D : DefT K mg "is_below" s_is_below ps_is_below) (D_is_number : DefP P w K mg base 2 "is_number" 1 (sF1 fun d => .bool (number d))) : DefP P w K mg base 3 "is_below" 2 S_is_below := by
  refine D.p N_is_below sc_is_below fun f cdv A outer s H E hr => ⟨_, _, jss_one (js_ret (je_and (je_f D_is_number hr (ja_cons (je_var 0) ja_nil)) (je_one (jc_v c_lt (je_var 0) (je_var 1))))), fun ds Q hl h => ?_⟩
  obtain ⟨d, m, rfl, q⟩ := h
  cases d with
  | int i =>
    by_cases h : 0 ≤ i
    · simpa [startE, h] using q
    · simpa [startE, h] using q
  | _ => simpa [startE] using q
theorem d_is_row (bi : ∀ x ∈ BI, mg x = none) (D : DefT K mg "is_row" s_is_row ps_is_row) (D_is_list : DefP P w K mg base 1 "is_list" 1 (sF1 fun d => .bool (isSeq d))) : DefP P w K mg base 2 "is_row" 2 S_is_row := by
  refine D.p N_is_row sc_is_row fun f cdv A outer s H E hr => ⟨_, _, jss_one (js_ret (je_and (je_f D_is_list hr (ja_cons (je_var 0) ja_nil)) (je_one (jc_v (c_eq hr) (je_len (by rfl) (bi _ (by decide)) (je_var 0)) (je_var 1))))), fun ds Q hl h => ?_⟩
  obtain ⟨d, m, rfl, q⟩ := h
  cases d <;> simpa [startE, row] using q
theorem d_kept_word (bi : ∀ x ∈ BI, mg x = none) (D : DefT K mg "kept_word" s_kept_word ps_kept_word) (D_is_list : DefP P w K mg base 1 "is_list" 1 (sF1 fun d => .bool (isSeq d)))
    (D_is_number : DefP P w K mg base 2 "is_number" 1 (sF1 fun d => .bool (number d))) (D_is_below : DefP P w K mg base 3 "is_below" 2 S_is_below) :
    DefP P w K mg base 4 "kept_word" 2 S_kept_word := by
  refine D.p N_kept_word sc_kept_word fun f cdv A outer s H E hr => ⟨_, _, jss_cons (js_if ((jw_or (jt_not (jt_b (je_f D_is_list hr (ja_cons (je_var 1) ja_nil)))) (jw_or1 (jt_not (jt_b (je_all (by rfl) (bi _ (by decide)) ((jl_lc [("one", 2)] sc_kept_word.nd (ji_seq (je_var 1)) (show blkC N_kept_word (defScope s_kept_word) _ _ = true by decide +kernel) (fun _ _ _ _ _ => jg_name 2 sc_kept_word.nd rfl (by first | exact Or.inl rfl | exact Or.inr rfl)) (fun _ _ _ _ _ => jts_nil) (fun _ _ _ _ _ => je_if (jt_isN (je_var 0)) (je_f D_is_number hr (ja_cons (je_var 2) ja_nil)) (je_f D_is_below hr (ja_cons (je_var 2) (ja_cons (je_var 0) ja_nil))))).je')))))).jt) (jss_one (js_ret je_non)) (jss_nil))
      (jss_one (js_ret (je_tupOf (by rfl) (bi _ (by decide)) (je_var 1)))), fun ds Q hl h => ?_⟩
  obtain ⟨m, d, rfl, hm, hd, q⟩ := h
  simp [startE, -List.all_eq_true, -List.all_eq_false]
  cases e : seqD d with
  | none =>
    rw [isSeq_no e, if_neg Bool.false_ne_true]
    simpa [keptW, e] using q
  | some xs =>
    rw [isSeq_of e, if_pos rfl]
    refine lc_map xs 0 (fun R h => by simpa [e] using h) (fun x => .bool (numOk m x)) (lenOk_seq hd e).1 (fun x hx n1 Q' h => ?_) (bools_of ?_)
    · rcases hm with rfl | ⟨k, rfl⟩ <;> simpa [numOk] using h
    · rw [all_map_id]
      simp only [keptW, e] at q
      by_cases h : xs.all (numOk m) = true
      · rw [if_pos h] at q ⊢
        exact ⟨xs, rfl, q⟩
      · rw [if_neg h] at q ⊢
        exact q
theorem d_kept_pair (bi : ∀ x ∈ BI, mg x = none) (D : DefT K mg "kept_pair" s_kept_pair ps_kept_pair) (D_is_row : DefP P w K mg base 2 "is_row" 2 S_is_row) (D_is_below : DefP P w K mg base 3 "is_below" 2 S_is_below) (D_kept_word : DefP P w K mg base 4 "kept_word" 2 S_kept_word) :
    DefP P w K mg base 5 "kept_pair" 3 S_kept_pair := by
  refine D.p N_kept_pair sc_kept_pair fun f cdv A outer s H E hr => ⟨_, _, jss_cons (js_if ((jw_or (jt_not (jt_b (je_f D_is_row hr (ja_cons (je_var 0) (ja_cons je_int ja_nil))))) (jw_or1 (jt_not (jt_b (je_f D_is_below hr (ja_cons (je_ix (je_var 0) je_int) (ja_cons (je_var 1) ja_nil))))))).jt) (jss_one (js_ret je_non)) (jss_nil))
      (jss_cons (js_asg (je_f D_kept_word hr (ja_cons (je_var 2) (ja_cons (je_ix (je_var 0) je_int) ja_nil))) (jg_name 3 sc_kept_pair.nd rfl (by first | exact Or.inl rfl | exact Or.inr rfl)))
      (jss_one (js_ret (je_if (jt_isN (je_var 3)) je_non (je_tup (ja_cons (je_ix (je_var 0) je_int) (ja_cons (je_var 3) ja_nil))))))), fun ds Q hl h => ?_⟩
  obtain ⟨d, st, sg, rfl, hd, q⟩ := h
  simp [startE]
  by_cases hr : row d 2 = true
  · obtain ⟨xs, e, hx⟩ := row_len hr (n := 2) rfl
    obtain ⟨a, b, rfl⟩ := len2 hx
    have hb : lenOk b = true := lenOks_mem (lenOk_seq hd e).2 b (by simp)
    simp only [keptP, e] at q
    by_cases ha : below st a = true
    · cases hn : noneD (keptW (.int sg) b) <;> simp [hr, e, ha, hb, hn] at q ⊢ <;> exact q
    · simp [hr, e, ha] at q ⊢
      exact q
  · have : keptP st sg d = .none := by
      unfold keptP
      cases e : seqD d with
      | none => rfl
      | some xs =>
        match xs, e with
        | [a, b], e => exact absurd (by unfold row; rw [e]; rfl) hr
        | [], _ => rfl
        | [_], _ => rfl
        | _ :: _ :: _ :: _, _ => rfl
    rw [this] at q
    simp [hr]
    exact q
end
end MC
namespace MC
open PySem PySem.Spec PyProof.Rows L2 DD
open Evl (Ex)
abbrev s__law_stream : Stmt := top 54
abbrev N__law_stream : List Str := ["script"]
abbrev ps__law_stream : List Str := ["script"]
theorem sc__law_stream : FnScope N__law_stream ps__law_stream (defScope s__law_stream) := ⟨rfl, rfl, rfl, by decide +kernel, rfl, by decide +kernel, by decide +kernel⟩
abbrev s__law_draw : Stmt := top 55
abbrev N__law_draw : List Str := ["stream", "many", "cell", "digit", "mixed"]
abbrev ps__law_draw : List Str := ["stream", "many"]
theorem sc__law_draw : FnScope N__law_draw ps__law_draw (defScope s__law_draw) := ⟨rfl, rfl, rfl, by decide +kernel, rfl, by decide +kernel, by decide +kernel⟩
abbrev s__law_pick : Stmt := top 56
abbrev N__law_pick : List Str := ["stream", "things"]
abbrev ps__law_pick : List Str := ["stream", "things"]
theorem sc__law_pick : FnScope N__law_pick ps__law_pick (defScope s__law_pick) := ⟨rfl, rfl, rfl, by decide +kernel, rfl, by decide +kernel, by decide +kernel⟩
/-! ### the stream of draws -/
def S_draw : ZSp := fun ds n Q => ∃ m : Int, ds = [.int m] ∧ 1 ≤ m ∧ m < 1073741824 ∧ n < 1099511627776 ∧ ∀ x : Int, 0 ≤ x → x < m → Q (.int x) (n + 1)
@[simp] theorem S_draw_at (m : Int) (n : Nat) (Q : PyData → Nat → Prop) : S_draw [.int m] n Q ↔ (1 ≤ m ∧ m < 1073741824 ∧ n < 1099511627776 ∧ ∀ x : Int, 0 ≤ x → x < m → Q (.int x) (n + 1)) := ⟨fun ⟨_, h, q⟩ => by cases h; exact q, fun q => ⟨_, rfl, q⟩⟩
def S_pick : ZSp := fun ds n Q => ∃ xs, ds = [.list xs] ∧ 1 ≤ xs.length ∧ xs.length ≤ 100000 ∧ n < 1099511627776 ∧ ∀ x ∈ xs, Q x (n + 1)
@[simp] theorem S_pick_at (xs : List PyData) (n : Nat) (Q : PyData → Nat → Prop) : S_pick [.list xs] n Q ↔ (1 ≤ xs.length ∧ xs.length ≤ 100000 ∧ n < 1099511627776 ∧ ∀ x ∈ xs, Q x (n + 1)) := ⟨fun ⟨_, h, q⟩ => by cases h; exact q, fun q => ⟨_, rfl, q⟩⟩
section
variable {P : Program} {w : World} {K : PySem.W.Frag} {mg : Str → Option Value} {base : Heap}
/-- what stands at the stream's two addresses -/
structure StAt (st sl : Addr) (ns : List Int) (c k m : Int) (H : Hp) : Prop where
  a : H st = some (.lst [.ref sl, .int c, .int k, .int m])
  b : H sl = some (.lst (ns.map V.int))
  ne : sl ≠ st
theorem StAt.set {st sl : Addr} {ns : List Int} {c k m : Int} {H : Hp} (h : StAt st sl ns c k m H) (c' k' m' : Int) : StAt st sl ns c' k' m' (L2.upd H st (.lst [.ref sl, .int c', .int k', .int m'])) := ⟨upd_same, by rw [upd_ne h.ne]; exact h.b, h.ne⟩
theorem StAt.pop {st sl : Addr} {ns : List Int} {c k m : Int} {H : Hp} (h : StAt st sl ns c k m H) (ns' : List Int) : StAt st sl ns' c k m (L2.upd H sl (.lst (ns'.map V.int))) := ⟨by rw [upd_ne (Ne.symm h.ne)]; exact h.a, upd_same, h.ne⟩
/-- all but the stream's stands -/
def Kp (st sl : Addr) (H H' : Hp) : Prop := ∀ b o, b ≠ st → b ≠ sl → H b = some o → H' b = some o
theorem Kp.u1 {st sl : Addr} {H H' : Hp} {o : HO} (h : Kp st sl H H') : Kp st sl H (L2.upd H' st o) := fun b u h1 h2 e => by rw [upd_ne h1]; exact h b u h1 h2 e
theorem Kp.u2 {st sl : Addr} {H H' : Hp} {o : HO} (h : Kp st sl H H') : Kp st sl H (L2.upd H' sl o) := fun b u h1 h2 e => by rw [upd_ne h2]; exact h b u h1 h2 e
theorem Kp.un {st sl p : Addr} {H H' : Hp} {o : HO} (h : Kp st sl H H') (hp : H' p = none) : Kp st sl H (L2.upd H' p o) := fun b u h1 h2 e => by
  have := h b u h1 h2 e
  rw [upd_ne (ne_of_none this hp)]; exact this
theorem StAt.un {st sl p : Addr} {ns : List Int} {c k m : Int} {H : Hp} {o : HO} (h : StAt st sl ns c k m H) (hp : H p = none) : StAt st sl ns c k m (L2.upd H p o) := ⟨by rw [upd_ne (ne_of_none h.a hp)]; exact h.a, by rw [upd_ne (ne_of_none h.b hp)]; exact h.b, h.ne⟩
theorem dpAll_ints {K : PySem.W.Frag} {H : Hp} : ∀ ns : List Int, DpAll K H (ns.map V.int) (ns.map PyData.int)
  | [] => .nil
  | n :: ns => .cons (.int n) (dpAll_ints ns)
theorem pl0 {b : Expr} (h : PlainIx b) : PlainIx b := h
theorem d__law_draw (bi : ∀ x ∈ BI, mg x = none) (D : DefT K mg "_law_draw" s__law_draw ps__law_draw) : DefZ P w K mg base 1 "_law_draw" 1 S_draw := by
  obtain ⟨f, fd, F, hm, hb⟩ := D.ex
  refine ⟨f, fd, ps__law_draw, ?_, hm, F.kp, hb⟩
  refine F.ok sc__law_draw (fun vs H Q E h => h.1) (fun cdv A outer s H vs Q E hr h => ?_)
  obtain ⟨hl, st, sl, us, F0, ds, n, R, rfl, eF, o1, o2, hS, ra, ⟨m, rfl, m1, m2, hn, q⟩, kk⟩ := h
  cases ra with
  | cons r1 r2 =>
    cases r1
    cases r2
    obtain ⟨ns, c, k, x, ha, hbb, c0, k0, kn, x0, x1, hne⟩ := hS.s
    have nd := sc__law_draw.nd
    have S0 : StAt st sl ns c k x H := ⟨ha, hbb, hne⟩
    refine ⟨_, pss_cons (ps_asg (pe_op op_add (pe_ix ix_list (pv 0) pe_int (fun _ _ => rfl)) pe_int) (pg_sub (pv 0) pe_int set_list))
      (Evl.pss_cut (ps_while PassesOwn.never (PW.pt (pw_and (pt_cmpR op_eq (pe_ix ix_list (pv 0) pe_int (fun _ _ => rfl)) pe_int (nomark _)) (pw_and1 (pt_cmpR (op_neD hr.units) (pe_ix ix_list (pv 0) pe_int (fun _ _ => rfl)) (pe_lst pa_nil) (nomark _)))))
        (pss_cons (ps_set (i := 2) nd rfl (Or.inl rfl) (pe_callB call_abs (by rfl) (bi _ (by decide)) (by decide +kernel) (pa_cons (pe_bm PySem.F.plainAttrs_list PySem.F.slot_list_pop PySem.F.type_list_pop mt_popAt (pe_ix ix_list (pv 0) pe_int (fun _ _ => rfl)) (pa_cons pe_int pa_nil)) pa_nil)))
        (pss_cons (ps_asg (pe_op op_mod (pe_callTy call_int1 (by rfl) (bi _ (by decide)) (by decide +kernel) (pa_cons (pe_op op_add (pe_op op_add (pe_op op_mul (pe_ix ix_list (pv 0) pe_int (fun _ _ => rfl)) pe_int) (pv 2)) pe_int) pa_nil)) pe_int) (pg_sub (pv 0) pe_int set_list))
        (pss_one (ps_asg (pe_ifExp (pt_cmpR op_ge (pv 2) (pe_op op_pow pe_int pe_int) (nomark _)) (pv 2) pe_int) (pg_sub (pv 0) pe_int set_list))))))
      (pss_cons (ps_if (pt_cmpR op_gt (pe_ix ix_list (pv 0) pe_int (fun _ _ => rfl)) pe_int (nomark _))
        (pss_cons (ps_set (i := 3) nd rfl (Or.inl rfl) (pe_op op_modN (pe_callTy call_int1 (by rfl) (bi _ (by decide)) (by decide +kernel) (pa_cons (pe_ix ix_list (pv 0) pe_int (fun _ _ => rfl)) pa_nil)) (pv 1)))
        (pss_cons (ps_asg (pe_op op_fdivN (pe_ix ix_list (pv 0) pe_int (fun _ _ => rfl)) (pv 1)) (pg_sub (pv 0) pe_int set_list))
        (pss_one (ps_ret (pv 3))))) pss_nil)
      (pss_cons (ps_set (i := 4) nd rfl (Or.inl rfl) (pe_op op_mod (pe_callTy call_int1 (by rfl) (bi _ (by decide)) (by decide +kernel) (pa_cons (pe_op op_pow (pe_op op_add (pe_op op_add (pe_ix ix_list (pv 0) pe_int (fun _ _ => rfl)) (pe_op op_mul pe_int (pe_ix ix_list (pv 0) pe_int (fun _ _ => rfl)))) pe_int) pe_int) pa_nil)) pe_int))
      (pss_one (ps_ret (pe_op op_modN (pe_op op_mod (pe_callTy call_int1 (by rfl) (bi _ (by decide)) (by decide +kernel) (pa_cons (pe_op op_pow (pe_op op_add (pe_op op_add (pe_op op_mul (pv 4) pe_int) (pe_op op_mul pe_int (pe_ix ix_list (pv 0) pe_int (fun _ _ => rfl)))) pe_int) pe_int) pa_nil)) pe_int) (pv 1))))))), ?_⟩
    -- stream[2] = stream[2] + 1
    refine ⟨_, rfl, st, _, 2, .int k, rfl, rfl, SqL.of S0.a, rfl, _, _, rfl, rfl, ?_⟩
    refine ⟨_, rfl, st, _, 2, 2, rfl, rfl, S0.a, rfl, ?_⟩
    have S1 := S0.set c (k + 1) x
    have K1 : Kp st sl H (L2.upd H st (.lst [.ref sl, .int c, .int (k + 1), .int x])) := Kp.u1 fun _ _ _ _ e => e
    -- the loop
    have Z : ∀ b, L2.upd H st (.lst [.ref sl, .int c, .int (k + 1), .int x]) b = none → H b = none := fun b hb => by
      by_cases e : b = st
      · subst e; rw [upd_same] at hb; cases hb
      · rw [upd_ne e] at hb; exact hb
    refine ⟨fun σ' H' => ∃ (ns' : List Int) (c' x' : Int) (cv : Option V), σ' = [some (.ref st), some (.int m), cv, none, none] ∧ StAt st sl ns' c' (k + 1) x' H' ∧ 0 ≤ c' ∧ 0 ≤ x' ∧ x' < 2147483647 ∧ Kp st sl H H' ∧ (∀ b, H' b = none → H b = none), ?_, ?_⟩
    · refine ⟨fun mm σ' H' => ∃ (ns' : List Int) (c' x' : Int) (cv : Option V), mm = ns'.length ∧ σ' = [some (.ref st), some (.int m), cv, none, none] ∧ StAt st sl ns' c' (k + 1) x' H' ∧ 0 ≤ c' ∧ 0 ≤ x' ∧ x' < 2147483647 ∧ Kp st sl H H' ∧ (∀ b, H' b = none → H b = none), ⟨ns.length, ns, c, x, none, rfl, rfl, S1, c0, x0, x1, K1, Z⟩, ?_⟩
      rintro mm σ' H' ⟨ns', c', x', cv, rfl, rfl, S, c0', x0', x1', Kk, Dm⟩
      -- stream[1] == 0
      refine ⟨_, rfl, st, _, 1, .int c', rfl, rfl, SqL.of S.a, rfl, rfl, _, rfl, ?_⟩
      have out : ∀ H2, StAt st sl ns' c' (k + 1) x' H2 → Kp st sl H H2 → (∀ b, H2 b = none → H b = none) → ∃ (ns' : List Int) (c' x' : Int) (cv1 : Option V), [some (V.ref st), some (V.int m), cv, none, none] = [some (V.ref st), some (V.int m), cv1, none, none] ∧ StAt st sl ns' c' (k + 1) x' H2 ∧ 0 ≤ c' ∧ 0 ≤ x' ∧ x' < 2147483647 ∧ Kp st sl H H2 ∧ (∀ b, H2 b = none → H b = none) :=
        fun H2 s2 k2 d2 => ⟨ns', c', x', cv, rfl, s2, c0', x0', x1', k2, d2⟩
      refine ite2 (fun hc => ?_) (fun hc => ?_)
      · -- stream[0] != []
        refine ⟨_, rfl, st, _, 0, .ref sl, rfl, rfl, SqL.of S.a, rfl, Evl.sz_of (by show 0 ≤ 100000; decide), fun p hp => ?_⟩
        have S2 := S.un (o := .lst []) hp
        have K2 := Kk.un (o := .lst []) hp
        have D2 : ∀ b, L2.upd H' p (.lst []) b = none → H b = none := fun b hb => by
          by_cases e : b = p
          · subst e; rw [upd_same] at hb; cases hb
          · rw [upd_ne e] at hb; exact Dm b hb
        refine ⟨.list (ns'.map PyData.int), .list [], .lst (SqL.of S2.b) (dpAll_ints ns'), .lst (SqL.of upd_same) .nil, (okD_flat (okD_list (n := 0) (fun d hd => by
          obtain ⟨i, _, rfl⟩ := List.mem_map.mp hd
          exact ⟨rfl, by simp [PyData.depth]⟩) (by decide))).2, rfl, _, rfl, ?_⟩
        cases ns' with
        | nil =>
          refine iteF ?_
          exact out _ S2 K2 D2
        | cons y ys =>
          refine iteT ?_
          refine ⟨fun σ' H' => ∃ m', m' < (y :: ys).length ∧ ∃ (ns' : List Int) (c' x' : Int) (cv : Option V), m' = ns'.length ∧ σ' = [some (.ref st), some (.int m), cv, none, none] ∧ StAt st sl ns' c' (k + 1) x' H' ∧ 0 ≤ c' ∧ 0 ≤ x' ∧ x' < 2147483647 ∧ Kp st sl H H' ∧ (∀ b, H' b = none → H b = none), fun σ' H' h => h, ?_⟩
          -- cell = abs(stream[0].pop(0))
          refine ⟨_, rfl, st, _, 0, .ref sl, rfl, rfl, SqL.of S2.a, rfl, .inl ⟨rfl, _, SqL.of S2.b⟩, sl, _, 0, 0, .int y, rfl, rfl, S2.b, by decide, by decide, ?_, rfl, _, rfl, ?_⟩
          · simp [seqIndex?]
          · have S3 : StAt st sl ys c' (k + 1) x' (L2.upd (L2.upd H' p (.lst [])) sl (.lst (ys.map V.int))) := S2.pop ys
            have K3 : Kp st sl H (L2.upd (L2.upd H' p (.lst [])) sl (.lst (ys.map V.int))) := K2.u2
            have D3 : ∀ b, L2.upd (L2.upd H' p (.lst [])) sl (.lst (ys.map V.int)) b = none → H b = none := fun b hb => by
              by_cases e : b = sl
              · subst e; rw [upd_same] at hb; cases hb
              · rw [upd_ne e] at hb; exact D2 b hb
            have cell0 : 0 ≤ (if y < 0 then -y else y) := by split <;> omega
            generalize (if y < 0 then -y else y) = cell at cell0
            generalize hH3 : L2.upd (L2.upd H' p (.lst [])) sl (.lst (ys.map V.int)) = H3 at S3 K3 D3
            rw [show L2.upd (L2.upd H' p (.lst [])) sl (.lst (((y :: ys).map V.int).eraseIdx 0)) = H3 from hH3]
            -- stream[3] = ..
            refine ⟨_, rfl, st, _, 3, .int x', rfl, rfl, SqL.of S3.a, rfl, _, _, rfl, rfl, .inl ⟨by omega, by omega⟩, _, rfl, _, _, rfl, rfl, _, _, rfl, rfl, .inl ⟨_, rfl, _, _, rfl, rfl, (by show (0 : Int) < 2147483647; decide), ?_⟩⟩
            refine ⟨_, rfl, st, _, 3, 3, rfl, rfl, S3.a, rfl, ?_⟩
            have x2 : 0 ≤ (x' * 8191 + cell + 3) % 2147483647 := Int.emod_nonneg _ (by decide)
            have x3 : (x' * 8191 + cell + 3) % 2147483647 < 2147483647 := Int.emod_lt_of_pos _ (by decide)
            have S4 := S3.set c' (k + 1) ((x' * 8191 + cell + 3) % 2147483647)
            have K4 := K3.u1 (o := .lst [.ref sl, .int c', .int (k + 1), .int ((x' * 8191 + cell + 3) % 2147483647)])
            have D4 : ∀ b, L2.upd H3 st (.lst [.ref sl, .int c', .int (k + 1), .int ((x' * 8191 + cell + 3) % 2147483647)]) b = none → H b = none := fun b hb => by
              by_cases e : b = st
              · subst e; rw [upd_same] at hb; cases hb
              · rw [upd_ne e] at hb; exact D3 b hb
            -- stream[1] = cell if cell >= 10 ** 18 else 0
            refine ⟨_, rfl, _, _, rfl, rfl, ⟨by decide, by decide, by decide⟩, _, _, rfl, rfl, _, rfl, ?_⟩
            have fin : ∀ cc : Int, 0 ≤ cc → ∃ m', m' < (y :: ys).length ∧ ∃ (ns2 : List Int) (c2 y2 : Int) (cv2 : Option V), m' = ns2.length ∧ [some (V.ref st), some (V.int m), some (V.int cell), none, none] = [some (V.ref st), some (V.int m), cv2, none, none] ∧ StAt st sl ns2 c2 (k + 1) y2 (L2.upd (L2.upd H3 st (.lst [.ref sl, .int c', .int (k + 1), .int ((x' * 8191 + cell + 3) % 2147483647)])) st (.lst [.ref sl, .int cc, .int (k + 1), .int ((x' * 8191 + cell + 3) % 2147483647)])) ∧ 0 ≤ c2 ∧ 0 ≤ y2 ∧ y2 < 2147483647 ∧
                Kp st sl H (L2.upd (L2.upd H3 st (.lst [.ref sl, .int c', .int (k + 1), .int ((x' * 8191 + cell + 3) % 2147483647)])) st (.lst [.ref sl, .int cc, .int (k + 1), .int ((x' * 8191 + cell + 3) % 2147483647)])) ∧ (∀ b, (L2.upd (L2.upd H3 st (.lst [.ref sl, .int c', .int (k + 1), .int ((x' * 8191 + cell + 3) % 2147483647)])) st (.lst [.ref sl, .int cc, .int (k + 1), .int ((x' * 8191 + cell + 3) % 2147483647)])) b = none → H b = none) := fun cc hcc => by
              refine ⟨ys.length, by simp, ys, cc, ((x' * 8191 + cell + 3) % 2147483647), some (.int cell), rfl, rfl, S4.set cc (k + 1) ((x' * 8191 + cell + 3) % 2147483647), hcc, x2, x3, K4.u1, fun b hb => ?_⟩
              by_cases e : b = st
              · subst e; rw [upd_same] at hb; cases hb
              · rw [upd_ne e] at hb; exact D4 b hb
            refine ite2 (fun _ => ?_) (fun _ => ?_)
            · exact ⟨_, rfl, _, rfl, st, _, 1, 1, rfl, rfl, S4.a, rfl, fin cell cell0⟩
            · exact ⟨_, rfl, st, _, 1, 1, rfl, rfl, S4.a, rfl, fin 0 (by decide)⟩
      · exact out H' S Kk Dm
    · rintro σ' H' ⟨ns', c', x', cv, rfl, S, c0', x0', x1', Kk, Dm⟩
      have ret : ∀ (v : Int) (H2 : Hp) (ns2 : List Int) (c2 y2 : Int), 0 ≤ v → v < m → StAt st sl ns2 c2 (k + 1) y2 H2 → 0 ≤ c2 → 0 ≤ y2 → y2 < 2147483647 → Kp st sl H H2 → (∀ b, H2 b = none → H b = none) → Q (.int v) H2 := fun v H2 ns2 c2 y2 v0 v1 s2 c20 y20 y21 k2 d2 => by
        refine kk (.int v) H2 F0 (.int v) (n + 1) ⟨fun b o hz e => k2 b o (fun z => hz (zv_zs.mpr (.inl z))) (fun z => hz (zv_zs.mpr (.inr z))) e, d2, Evl.Ex.refl F0, fun b o e => k2 b o (fun z => by rw [z, o1] at e; cases e) (fun z => by rw [z, o2] at e; cases e) (eF b o e), fun _ _ h => .inl h⟩ ⟨⟨ns2, c2, k + 1, y2, s2.a, s2.b, c20, by omega, by omega, y20, y21, s2.ne⟩, fun _ q => (nomatch q)⟩ (.int v) (q v v0 v1)
      have fm : ∀ a : Int, 0 ≤ a.fmod m ∧ a.fmod m < m := fun a => by
        rw [Int.fmod_eq_emod_of_nonneg _ (by omega)]
        exact ⟨Int.emod_nonneg _ (by omega), Int.emod_lt_of_pos _ (by omega)⟩
      -- if stream[1] > 0
      refine ⟨_, rfl, st, _, 1, .int c', rfl, rfl, SqL.of S.a, rfl, _, _, rfl, rfl, _, rfl, ?_⟩
      refine ite2 (fun hc => ?_) (fun hc => ?_)
      · -- digit = int(stream[1]) % many
        refine ⟨_, rfl, st, _, 1, .int c', rfl, rfl, SqL.of S.a, rfl, .inl ⟨_, rfl, _, rfl, _, _, rfl, rfl, (by show m ≠ 0; omega), ?_⟩⟩
        -- stream[1] = stream[1] // many
        refine ⟨_, rfl, st, _, 1, .int c', rfl, rfl, SqL.of S.a, rfl, _, rfl, _, _, rfl, rfl, ⟨by omega, by omega⟩, _, rfl, st, _, 1, 1, rfl, rfl, S.a, rfl, ?_⟩
        have cd : 0 ≤ c'.fdiv m := Int.fdiv_nonneg (by omega) (by omega)
        refine ⟨_, rfl, ret _ _ ns' (c'.fdiv m) x' (fm c').1 (fm c').2 (S.set (c'.fdiv m) (k + 1) x') cd x0' x1' Kk.u1 fun b hb => ?_⟩
        by_cases e : b = st
        · subst e; rw [upd_same] at hb; cases hb
        · rw [upd_ne e] at hb; exact Dm b hb
      · -- mixed
        refine ⟨_, rfl, st, _, 3, .int x', rfl, rfl, SqL.of S.a, rfl, _, rfl, st, _, 2, .int (k + 1), rfl, rfl, SqL.of S.a, rfl, _, _, rfl, rfl, .inl ⟨by decide, by decide⟩, _, _, rfl, rfl, _, _, rfl, rfl, _, _, rfl, rfl, ⟨by decide, by decide, by omega⟩, .inl ⟨_, rfl, _, _, rfl, rfl, (by show (0 : Int) < 2147483629; decide), ?_⟩⟩
        have u0 : 0 ≤ (x' + 7919 * (k + 1) + 104729) ^ (5 : Int).toNat % 2147483629 := Int.emod_nonneg _ (by decide)
        have u1 : (x' + 7919 * (k + 1) + 104729) ^ (5 : Int).toNat % 2147483629 < 2147483629 := Int.emod_lt_of_pos _ (by decide)
        refine ⟨_, rfl, _, _, rfl, rfl, .inl ⟨Int.lt_of_lt_of_le (by decide : -(2 ^ 64) < (0 : Int)) u0, Int.lt_trans u1 (by decide)⟩, _, rfl, st, _, 2, .int (k + 1), rfl, rfl, SqL.of S.a, rfl, _, _, rfl, rfl, .inl ⟨by decide, by decide⟩, _, _, rfl, rfl, _, _, rfl, rfl, _, _, rfl, rfl, ⟨by decide, by decide, ?_⟩,
          .inl ⟨_, rfl, _, _, rfl, rfl, (by show (0 : Int) < 1000000007; decide), _, rfl, _, _, rfl, rfl, (by show m ≠ 0; omega), ?_⟩⟩
        · show (((x' + 7919 * (k + 1) + 104729) ^ (5 : Int).toNat % 2147483629) * 48271 + 30011 * (k + 1) + 29 : Int).natAbs < 2 ^ 64
          omega
        · exact ret _ _ ns' c' x' (fm _).1 (fm _).2 S c0' x0' x1' Kk Dm
theorem d__law_pick (bi : ∀ x ∈ BI, mg x = none) (D : DefT K mg "_law_pick" s__law_pick ps__law_pick) (D__law_draw : DefZ P w K mg base 1 "_law_draw" 1 S_draw) :
    DefZ P w K mg base 2 "_law_pick" 1 S_pick := by
  refine D.z N__law_pick sc__law_pick rfl fun f z cdv A outer s H E hr => ⟨_, _, jss_one (js_ret (je_ix (je_var 1) (je_z 0 D__law_draw hr (ja_cons (je_len (by rfl) (bi _ (by decide)) (je_var 1)) ja_nil)))), fun ds n Q hl h => ?_⟩
  obtain ⟨xs, rfl, h1, h2, h3, q⟩ := h
  simp [startZ, h3]
  refine ⟨by omega, by omega, fun x x0 x1 => ?_⟩
  have hx : x.toNat < xs.length := by omega
  exact ⟨xs[x.toNat], by rw [atI_pos xs x0, List.getElem?_eq_getElem hx], q _ (List.getElem_mem hx)⟩
end
end MC
namespace MC
open PySem PySem.Spec PyProof.Rows L2 DD
open Evl (Ex)
abbrev s__law_same : Stmt := top 57
abbrev N__law_same : List Str := ["found", "due", "mine", "theirs"]
abbrev ps__law_same : List Str := ["found", "due"]
theorem sc__law_same : FnScope N__law_same ps__law_same (defScope s__law_same) := ⟨rfl, rfl, rfl, by decide +kernel, rfl, by decide +kernel, by decide +kernel⟩
abbrev s__law_copied : Stmt := top 58
abbrev N__law_copied : List Str := ["thing", "some", "one", "key"]
abbrev ps__law_copied : List Str := ["thing"]
theorem sc__law_copied : FnScope N__law_copied ps__law_copied (defScope s__law_copied) := ⟨rfl, rfl, rfl, by decide +kernel, rfl, by decide +kernel, by decide +kernel⟩
/-! ### data that the law's helpers take -/
mutual
def gd : PyData → Bool
  | .str x => PyData.canLay0 (.str x)
  | .list xs => decide (xs.length ≤ 100000) && gds xs
  | .tuple xs => decide (xs.length ≤ 100000) && gds xs
  | .dict es => decide (es.length ≤ 100000) && gdk es
  | _ => true
def gds : List PyData → Bool
  | [] => true
  | x :: xs => gd x && gds xs
def gdk : List (PyData × PyData) → Bool
  | [] => true
  | (k, v) :: r => gd k && gd v && gdk r
end
mutual
def ht : PyData → Nat
  | .list xs => hts xs + 1
  | .tuple xs => hts xs + 1
  | .dict es => htk es + 3
  | _ => 0
def hts : List PyData → Nat
  | [] => 0
  | x :: xs => max (ht x) (hts xs)
def htk : List (PyData × PyData) → Nat
  | [] => 0
  | (k, v) :: r => max (max (ht k) (ht v)) (htk r)
end
theorem gds_mem {xs : List PyData} (h : gds xs = true) : ∀ d ∈ xs, gd d = true := by
  induction xs with
  | nil => intro d hd; cases hd
  | cons x xs ih =>
    rw [gds, Bool.and_eq_true] at h
    intro d hd
    rcases List.mem_cons.mp hd with e | hd
    · rw [e]; exact h.1
    · exact ih h.2 d hd
theorem gds_of {xs : List PyData} (h : ∀ d ∈ xs, gd d = true) : gds xs = true := by
  induction xs with
  | nil => rfl
  | cons x xs ih => rw [gds, h x (by simp), ih fun d hd => h d (by simp [hd])]; rfl
theorem hts_mem {xs : List PyData} : ∀ d ∈ xs, ht d ≤ hts xs := by
  induction xs with
  | nil => intro d hd; cases hd
  | cons x xs ih =>
    intro d hd
    rw [hts]
    rcases List.mem_cons.mp hd with e | hd
    · rw [e]; omega
    · have := ih d hd; omega
theorem hts_of {xs : List PyData} {n : Nat} (h : ∀ d ∈ xs, ht d ≤ n) : hts xs ≤ n := by
  induction xs with
  | nil => simp [hts]
  | cons x xs ih =>
    have h1 := h x (by simp)
    have h2 := ih fun d hd => h d (by simp [hd])
    rw [hts]; omega
theorem gdk_items : ∀ {es : List (PyData × PyData)}, gdk es = true → gds (es.map pairK) = true
  | [], _ => rfl
  | (k, v) :: r, h => by
    rw [gdk] at h
    simp only [Bool.and_eq_true] at h
    have ih := gdk_items h.2
    rw [List.map_cons, gds, ih]
    simp [pairK, gd, gds, h.1.1, h.1.2]
theorem htk_items : ∀ {es : List (PyData × PyData)}, hts (es.map pairK) ≤ htk es + 1
  | [] => by simp [hts, htk]
  | (k, v) :: r => by
    have ih := htk_items (es := r)
    rw [List.map_cons, hts, htk]
    have : ht (pairK (k, v)) = max (ht k) (ht v) + 1 := by simp [pairK, ht, hts]
    omega
mutual
/-- no dict but empty ones -/
def nd : PyData → Bool
  | .list xs => nds xs
  | .tuple xs => nds xs
  | .dict es => es.isEmpty
  | _ => true
def nds : List PyData → Bool
  | [] => true
  | x :: xs => nd x && nds xs
end
theorem nds_mem {xs : List PyData} (h : nds xs = true) : ∀ d ∈ xs, nd d = true := by
  induction xs with
  | nil => intro d hd; cases hd
  | cons x xs ih =>
    rw [nds, Bool.and_eq_true] at h
    intro d hd
    rcases List.mem_cons.mp hd with e | hd
    · rw [e]; exact h.1
    · exact ih h.2 d hd
theorem nds_of {xs : List PyData} (h : ∀ d ∈ xs, nd d = true) : nds xs = true := by
  induction xs with
  | nil => rfl
  | cons x xs ih => rw [nds, h x (by simp), ih fun d hd => h d (by simp [hd])]; rfl
def S_copied (n : Nat) : PSp := fun ds Q => ∃ d, ds = [d] ∧ gd d = true ∧ nd d = true ∧ ht d < n ∧ Q d
@[simp] theorem S_copied_at (n : Nat) (d : PyData) (Q : PyData → Prop) : S_copied n [d] Q ↔ (gd d = true ∧ nd d = true ∧ ht d < n ∧ Q d) := ⟨fun ⟨_, h, q⟩ => by cases h; exact q, fun q => ⟨_, rfl, q⟩⟩
/-! ### _law_same, of equal data -/
def S_same (n : Nat) : PSp := fun ds Q => ∃ d, ds = [d, d] ∧ gd d = true ∧ ht d < n ∧ Q (.bool true)
@[simp] theorem S_same_at (n : Nat) (d e : PyData) (Q : PyData → Prop) : S_same n [d, e] Q ↔ (d = e ∧ gd d = true ∧ ht d < n ∧ Q (.bool true)) := ⟨fun ⟨_, h, q⟩ => by cases h; exact ⟨rfl, q⟩, fun ⟨h, q⟩ => by subst h; exact ⟨_, rfl, q⟩⟩
section
variable {P : Program} {w : World} {K : PySem.W.Frag} {mg : Str → Option Value} {base : Heap}
theorem d__law_same (bi : ∀ x ∈ BI, mg x = none) (D : DefT K mg "_law_same" s__law_same ps__law_same) : ∀ n, DefP P w K mg base n "_law_same" 2 (S_same n)
  | 0 => (D.none rfl).imp fun ds Q hl ⟨d, _, _, h, _⟩ => absurd h (Nat.not_lt_zero _)
  | n + 1 => by
    have D__law_same := d__law_same bi D n
    refine D.p N__law_same sc__law_same fun f cdv A outer s H E hr => ⟨_, _, jss_cons (js_if (jt_b (je_isi_LT bi (je_var 1))) (jss_cons (js_if ((jw_or (jc_t (c_ne hr) (je_isi_list bi (je_var 0)) (je_isi_list bi (je_var 1))) (jw_or1 (jc_t (c_ne hr) (je_isi_tuple bi (je_var 0)) (je_isi_tuple bi (je_var 1))))).jt) (jss_one (js_ret je_bl)) (jss_nil))
      (jss_one (js_ret (je_and (jc_v (c_eq hr) (je_len (by rfl) (bi _ (by decide)) (je_var 0)) (je_len (by rfl) (bi _ (by decide)) (je_var 1))) (je_one (je_all (by rfl) (bi _ (by decide)) ((jl_lc [("mine", 2), ("theirs", 3)] sc__law_same.nd (ji_zip (by rfl) (bi _ (by decide)) (je_var 0) (je_var 1)) (show blkC N__law_same (defScope s__law_same) _ _ = true by decide +kernel) (fun _ _ _ _ _ => jg_tup 2 (jgs_cons (jg_name 2 sc__law_same.nd rfl (by first | exact Or.inl rfl | exact Or.inr rfl)) (jgs_cons (jg_name 3 sc__law_same.nd rfl (by first | exact Or.inl rfl | exact Or.inr rfl)) jgs_nil))) (fun _ _ _ _ _ => jts_nil) (fun _ _ _ _ _ => je_f D__law_same hr (ja_cons (je_var 2) (ja_cons (je_var 3) ja_nil)))).je'))))))) (jss_nil))
      (jss_cons (js_if (jt_b (je_isi_dict bi (je_var 1))) (jss_one (js_ret (je_and (je_isi_dict bi (je_var 0)) (je_one (je_f D__law_same hr (ja_cons ((jl_itemsA bi (je_var 0)).je') (ja_cons ((jl_itemsA bi (je_var 1)).je') ja_nil))))))) (jss_nil))
      (jss_cons (js_if ((jw_or (jt_b (je_isi_bool bi (je_var 1))) (jw_or1 (jt_b (je_isi_bool bi (je_var 0))))).jt) (jss_one (js_ret (je_and (je_isi_bool bi (je_var 1)) (je_and (je_isi_bool bi (je_var 0)) (je_one (jc_v (c_eq hr) (je_var 0) (je_var 1))))))) (jss_nil))
      (jss_cons (js_if ((jw_or (jt_isN (je_var 1)) (jw_or1 (jt_isN (je_var 0)))).jt) (jss_one (js_ret (je_and (je_isN (je_var 1)) (je_one (je_isN (je_var 0)))))) (jss_nil))
      (jss_cons (js_if ((jw_or (jc_t (c_ne hr) (je_isi_int bi (je_var 1)) (je_isi_int bi (je_var 0))) (jw_or1 (jc_t (c_ne hr) (je_isi_str bi (je_var 1)) (je_isi_str bi (je_var 0))))).jt) (jss_one (js_ret je_bl)) (jss_nil))
      (jss_one (js_ret (je_and (je_not (je_isi_LTD bi (je_var 0))) (je_one (jc_v (c_eq hr) (je_var 0) (je_var 1)))))))))), fun ds Q hl h => ?_⟩
    obtain ⟨d, rfl, hg, hn, q⟩ := h
    have key : ∀ xs : List PyData, gds xs = true → hts xs < n → ∀ d ∈ zipD xs xs, ∃ x, d = .tuple [x, x] ∧ gd x = true ∧ ht x < n := fun xs h1 h2 d hd => by
      obtain ⟨i, hi⟩ := List.getElem?_of_mem hd
      obtain ⟨x, y, e1, e2, rfl⟩ := zipD_get hi
      rw [e1] at e2
      cases e2
      have hm := List.mem_of_getElem? e1
      exact ⟨x, rfl, gds_mem h1 x hm, Nat.lt_of_le_of_lt (hts_mem x hm) h2⟩
    have tr : ∀ xs : List PyData, (zipD xs xs).all (fun _ => true) = true := fun xs => by rw [List.all_eq_true]; exact fun _ _ => rfl
    cases d with
    | none => simpa [startE] using q
    | bool b => simpa [startE, PyData.eqv] using q
    | int i => simpa [startE] using q
    | str x =>
      simp [startE, okD_str]
      exact ⟨by simpa [gd] using hg, q⟩
    | list xs =>
      simp [startE, -List.all_eq_true]
      simp only [gd, Bool.and_eq_true, decide_eq_true_eq] at hg
      refine lc_map (zipD xs xs) 0 (fun R h => by simpa using h) (fun _ => .bool true) (by rw [zipD_len]; omega) (fun d hd n1 Q' h => ?_) (bools_of (by rw [all_map_id, tr]; exact q))
      obtain ⟨x, rfl, h1, h2⟩ := key xs hg.2 (by simp only [ht] at hn; omega) d hd
      simp [h1, h2]
      exact h
    | tuple xs =>
      simp [startE, -List.all_eq_true]
      simp only [gd, Bool.and_eq_true, decide_eq_true_eq] at hg
      refine lc_map (zipD xs xs) 0 (fun R h => by simpa using h) (fun _ => .bool true) (by rw [zipD_len]; omega) (fun d hd n1 Q' h => ?_) (bools_of (by rw [all_map_id, tr]; exact q))
      obtain ⟨x, rfl, h1, h2⟩ := key xs hg.2 (by simp only [ht] at hn; omega) d hd
      simp [h1, h2]
      exact h
    | dict es =>
      simp only [gd, Bool.and_eq_true, decide_eq_true_eq] at hg
      have k1 := gdk_items hg.2
      have k2 := htk_items (es := es)
      simp only [ht] at hn
      have h1 : gd (.list (es.map pairK)) = true := by simp [gd, k1, hg.1]
      have h2 : ht (.list (es.map pairK)) < n := by simp only [ht]; omega
      simp [startE, -List.all_eq_true, h1, h2]
      exact q
theorem d__law_copied (bi : ∀ x ∈ BI, mg x = none) (D : DefT K mg "_law_copied" s__law_copied ps__law_copied) : ∀ n, DefP P w K mg base n "_law_copied" 1 (S_copied n)
  | 0 => (D.none rfl).imp fun ds Q hl ⟨d, _, _, _, h, _⟩ => absurd h (Nat.not_lt_zero _)
  | n + 1 => by
    have D__law_copied := d__law_copied bi D n
    refine D.p N__law_copied sc__law_copied fun f cdv A outer s H E hr => ⟨_, _, jss_cons (js_if (jt_b (je_isi_dict bi (je_var 0))) (jss_one (js_ret (je_dcopy 0 3 [("key", 3)] sc__law_copied.nd bi rfl (show blkC N__law_copied (defScope s__law_copied) _ _ = true by decide +kernel) (fun _ _ _ _ _ => (jg_name (z := z0) 3 sc__law_copied.nd rfl (by first | exact Or.inl rfl | exact Or.inr rfl)).pg) (fun _ _ _ _ _ => (je_tup (ja_cons (je_var 3) (ja_cons (je_f D__law_copied hr (ja_cons (je_ix (je_var 0) (je_var 3)) ja_nil)) ja_nil)) : JE z0 _ _ _ _).pe)))) (jss_nil))
      (jss_cons (js_asg (je_if (jt_b (je_isi_LT bi (je_var 0))) ((jl_lc [("one", 2)] sc__law_copied.nd (ji_seq (je_var 0)) (show blkC N__law_copied (defScope s__law_copied) _ _ = true by decide +kernel) (fun _ _ _ _ _ => jg_name 2 sc__law_copied.nd rfl (by first | exact Or.inl rfl | exact Or.inr rfl)) (fun _ _ _ _ _ => jts_nil) (fun _ _ _ _ _ => je_f D__law_copied hr (ja_cons (je_var 2) ja_nil))).je') (je_var 0)) (jg_name 1 sc__law_copied.nd rfl (by first | exact Or.inl rfl | exact Or.inr rfl)))
      (jss_one (js_ret (je_if (jt_b (je_isi_tuple bi (je_var 0))) (je_tupOf (by rfl) (bi _ (by decide)) (je_var 1)) (je_var 1))))), fun ds Q hl h => ?_⟩
    obtain ⟨d, rfl, hg, hd, hn, q⟩ := h
    cases d with
    | none => simpa [startE] using q
    | bool b => simpa [startE] using q
    | int i => simpa [startE] using q
    | str x => simpa [startE] using q
    | list xs =>
      simp only [gd, Bool.and_eq_true, decide_eq_true_eq] at hg
      simp only [nd] at hd
      simp only [ht] at hn
      simp [startE]
      refine lc_map xs 0 (fun R h => by simpa using h) (fun x => x) hg.1 (fun x hx n1 Q' h => ?_) (by simpa using q)
      have := hts_mem x hx
      simp [gds_mem hg.2 x hx, nds_mem hd x hx, show ht x < n by omega]
      exact h
    | tuple xs =>
      simp only [gd, Bool.and_eq_true, decide_eq_true_eq] at hg
      simp only [nd] at hd
      simp only [ht] at hn
      simp [startE]
      refine lc_map xs 0 (fun R h => by simpa using h) (fun x => x) hg.1 (fun x hx n1 Q' h => ?_) (by simpa using q)
      have := hts_mem x hx
      simp [gds_mem hg.2 x hx, nds_mem hd x hx, show ht x < n by omega]
      exact h
    | dict es =>
      simp only [nd, List.isEmpty_iff] at hd
      subst hd
      simpa [startE] using q
end
end MC
namespace MC
open PySem PySem.Spec PyProof.Rows L2 DD
open PySem.W (alike dataLt dataLe AllAlike Sortable EachIs)
open Evl (Ex)
abbrev s__law_said : Stmt := top 60
abbrev N__law_said : List Str := ["stream", "signs", "most", "k"]
abbrev ps__law_said : List Str := ["stream", "signs", "most"]
theorem sc__law_said : FnScope N__law_said ps__law_said (defScope s__law_said) := ⟨rfl, rfl, rfl, by decide +kernel, rfl, by decide +kernel, by decide +kernel⟩
/-! ### data within bounds -/
def leafD : PyData → Bool
  | .list _ => false
  | .tuple _ => false
  | .dict es => es.isEmpty
  | .str x => PyData.canLay0 (.str x)
  | _ => true
/-- of height at most h, all lists and tuples of at most l items, no dict but empty ones -/
def bx : Nat → Nat → PyData → Bool
  | 0, _, d => leafD d
  | h + 1, l, d => match seqD d with
    | some xs => decide (xs.length ≤ l) && xs.all (bx h l)
    | none => leafD d
theorem seqD_leaf {d : PyData} (h : leafD d = true) : seqD d = none := by cases d <;> first | rfl | cases h
theorem bx_leaf {d : PyData} (h : leafD d = true) : ∀ (n l : Nat), bx n l d = true
  | 0, _ => h
  | n + 1, l => by rw [bx, seqD_leaf h]; exact h
theorem bx_seq {n l : Nat} {d : PyData} {xs : List PyData} (h : bx (n + 1) l d = true) (e : seqD d = some xs) : xs.length ≤ l ∧ ∀ x ∈ xs, bx n l x = true := by
  rw [bx, e] at h
  simpa using h
theorem bx_of {n l : Nat} {d : PyData} {xs : List PyData} (e : seqD d = some xs) (h1 : xs.length ≤ l) (h2 : ∀ x ∈ xs, bx n l x = true) : bx (n + 1) l d = true := by
  rw [bx, e]
  simpa using ⟨h1, h2⟩
theorem bx_list {n l : Nat} {xs : List PyData} (h1 : xs.length ≤ l) (h2 : ∀ x ∈ xs, bx n l x = true) : bx (n + 1) l (.list xs) = true := bx_of rfl h1 h2
theorem bx_tuple {n l : Nat} {xs : List PyData} (h1 : xs.length ≤ l) (h2 : ∀ x ∈ xs, bx n l x = true) : bx (n + 1) l (.tuple xs) = true := bx_of rfl h1 h2
theorem bx_mono : ∀ {n m l k : Nat} {d : PyData}, n ≤ m → l ≤ k → bx n l d = true → bx m k d = true
  | 0, m, l, k, d, _, _, h => bx_leaf h m k
  | n + 1, 0, _, _, _, h, _, _ => absurd h (by omega)
  | n + 1, m + 1, l, k, d, h1, h2, h => by
    cases e : seqD d with
    | none => rw [bx, e] at h ⊢; exact h
    | some xs =>
      have := bx_seq h e
      exact bx_of e (by omega) fun x hx => bx_mono (by omega) h2 (this.2 x hx)
theorem lenOks_of {xs : List PyData} (h : ∀ d ∈ xs, lenOk d = true) : lenOks xs = true := by
  induction xs with
  | nil => rfl
  | cons x xs ih => rw [lenOks, h x (by simp), ih fun d hd => h d (by simp [hd])]; rfl
theorem bx_gd : ∀ {n l : Nat} {d : PyData}, l ≤ 100000 → bx n l d = true → gd d = true ∧ nd d = true ∧ ht d ≤ n + 3 ∧ lenOk d = true := by
  have leaf : ∀ (n : Nat) (d : PyData), leafD d = true → gd d = true ∧ nd d = true ∧ ht d ≤ n + 3 ∧ lenOk d = true := by
    intro n d h
    cases d with
    | list xs => cases h
    | tuple xs => cases h
    | dict es =>
      have : es = [] := by simpa [leafD] using h
      subst this
      exact ⟨rfl, rfl, by simp [ht, htk], rfl⟩
    | str x => exact ⟨h, rfl, by simp [ht], rfl⟩
    | _ => exact ⟨rfl, rfl, by simp [ht], rfl⟩
  intro n
  induction n with
  | zero => exact fun {l d} hl h => leaf 0 d h
  | succ n ih =>
    intro l d hl h
    cases e : seqD d with
    | none =>
      rw [bx, e] at h
      exact leaf _ d h
    | some xs =>
      have q := bx_seq h e
      have a := fun x hx => ih hl (q.2 x hx)
      have b1 := gds_of fun x hx => (a x hx).1
      have b2 := nds_of fun x hx => (a x hx).2.1
      have b3 := hts_of fun x hx => (a x hx).2.2.1
      have b4 := lenOks_of fun x hx => (a x hx).2.2.2
      have hl' : xs.length ≤ 100000 := by omega
      cases d <;> simp [seqD] at e <;> subst e <;> simp [gd, nd, ht, lenOk, b1, b2, b4, hl'] <;> omega
/-! ### typed data -/
def wrd (l : Nat) : PyData → Bool
  | .list xs => decide (xs.length ≤ l) && xs.all whole
  | _ => false
def pr (l : Nat) : PyData → Bool
  | .tuple [a, w] => whole a && wrd l w
  | _ => false
def mv (l : Nat) : PyData → Bool
  | .tuple [a, b, w, c] => whole a && whole b && wrd l w && whole c
  | _ => false
theorem whole_of {d : PyData} (h : whole d = true) : ∃ i, d = .int i := by cases d <;> first | exact ⟨_, rfl⟩ | cases h
theorem wrd_of {l : Nat} {d : PyData} (h : wrd l d = true) : ∃ ws : List Int, d = .list (ws.map PyData.int) ∧ ws.length ≤ l := by
  cases d with
  | list xs =>
    simp only [wrd, Bool.and_eq_true, decide_eq_true_eq, List.all_eq_true] at h
    have : ∃ ws : List Int, xs = ws.map PyData.int := by
      have h2 := h.2
      clear h
      induction xs with
      | nil => exact ⟨[], rfl⟩
      | cons x xs ih =>
        obtain ⟨ws, e⟩ := ih fun d hd => h2 d (by simp [hd])
        obtain ⟨i, rfl⟩ := whole_of (h2 x (by simp))
        exact ⟨i :: ws, by rw [e]; rfl⟩
    obtain ⟨ws, rfl⟩ := this
    exact ⟨ws, rfl, by simpa using h.1⟩
  | _ => cases h
theorem wrd_mk {l : Nat} {ws : List Int} (h : ws.length ≤ l) : wrd l (.list (ws.map PyData.int)) = true := by simp [wrd, h]
theorem pr_of {l : Nat} {d : PyData} (h : pr l d = true) : ∃ (i : Int) (ws : List Int), d = .tuple [.int i, .list (ws.map PyData.int)] ∧ ws.length ≤ l := by
  unfold pr at h
  split at h
  · rw [Bool.and_eq_true] at h
    obtain ⟨i, rfl⟩ := whole_of h.1
    obtain ⟨ws, rfl, hl⟩ := wrd_of h.2
    exact ⟨i, ws, rfl, hl⟩
  · cases h
theorem mv_of {l : Nat} {d : PyData} (h : mv l d = true) : ∃ (i j : Int) (ws : List Int) (k : Int), d = .tuple [.int i, .int j, .list (ws.map PyData.int), .int k] ∧ ws.length ≤ l := by
  unfold mv at h
  split at h
  · simp only [Bool.and_eq_true] at h
    obtain ⟨i, rfl⟩ := whole_of h.1.1.1
    obtain ⟨j, rfl⟩ := whole_of h.1.1.2
    obtain ⟨ws, rfl, hl⟩ := wrd_of h.1.2
    obtain ⟨k, rfl⟩ := whole_of h.2
    exact ⟨i, j, ws, k, rfl, hl⟩
  · cases h
theorem pr_mk {l : Nat} {i : Int} {w : PyData} (h : wrd l w = true) : pr l (.tuple [.int i, w]) = true := by simp [pr, h]
theorem mv_mk {l : Nat} {i j k : Int} {w : PyData} (h : wrd l w = true) : mv l (.tuple [.int i, .int j, w, .int k]) = true := by simp [mv, h]
theorem alike_pr {l : Nat} {d e : PyData} (h1 : pr l d = true) (h2 : pr l e = true) : alike d e = true := by
  obtain ⟨i, ws, rfl, _⟩ := pr_of h1
  obtain ⟨j, vs, rfl, _⟩ := pr_of h2
  simp [alike, PySem.W.alikeAll, alike_ints]
theorem alike_mv {l : Nat} {d e : PyData} (h1 : mv l d = true) (h2 : mv l e = true) : alike d e = true := by
  obtain ⟨i, j, ws, k, rfl, _⟩ := mv_of h1
  obtain ⟨i', j', vs, k', rfl, _⟩ := mv_of h2
  simp [alike, PySem.W.alikeAll, alike_ints]
theorem plain_ints (ws : List Int) : plains (ws.map PyData.int) = true := plains_all fun d hd => by
  obtain ⟨i, _, rfl⟩ := List.mem_map.mp hd
  rfl
theorem plain_wrd {l : Nat} {d : PyData} (h : wrd l d = true) : DD.plain d = true ∧ d.depth ≤ 1 := by
  obtain ⟨ws, rfl, _⟩ := wrd_of h
  have := depth_ints ws
  exact ⟨by simp [DD.plain, plain_ints], by simp only [PyData.depth]; omega⟩
theorem plain_pr {l : Nat} {d : PyData} (h : pr l d = true) : DD.plain d = true ∧ d.depth ≤ 2 := by
  obtain ⟨i, ws, rfl, _⟩ := pr_of h
  have := depth_ints ws
  exact ⟨by simp [DD.plain, plains, plain_ints], by simp only [PyData.depth, PyData.depthAll]; omega⟩
theorem plain_mv {l : Nat} {d : PyData} (h : mv l d = true) : DD.plain d = true ∧ d.depth ≤ 2 := by
  obtain ⟨i, j, ws, k, rfl, _⟩ := mv_of h
  have := depth_ints ws
  exact ⟨by simp [DD.plain, plains, plain_ints], by simp only [PyData.depth, PyData.depthAll]; omega⟩
theorem flatDs_plain {xs : List PyData} (h : ∀ d ∈ xs, DD.plain d = true) : flatDs xs = true := (plains_flat (plains_all h)).1
/-- rows that are alike, tuples -/
structure Rws (xs : List PyData) : Prop where
  pl : ∀ d ∈ xs, DD.plain d = true ∧ d.depth ≤ 2
  al : ∀ d ∈ xs, ∀ e ∈ xs, alike d e = true
  tp : ∀ d ∈ xs, ∃ x r, d = .tuple (x :: r)
theorem Rws.sort {xs : List PyData} (h : Rws xs) : OkSort xs := ⟨flatDs_plain fun d hd => (h.pl d hd).1, h.al, .inl h.tp, fun d hd => by have := (h.pl d hd).2; omega⟩
theorem rws_pr {l : Nat} {xs : List PyData} (h : ∀ d ∈ xs, pr l d = true) : Rws xs := ⟨fun d hd => plain_pr (h d hd), fun d hd e he => alike_pr (h d hd) (h e he), fun d hd => by
  obtain ⟨i, ws, rfl, _⟩ := pr_of (h d hd)
  exact ⟨_, _, rfl⟩⟩
theorem rws_mv {l : Nat} {xs : List PyData} (h : ∀ d ∈ xs, mv l d = true) : Rws xs := ⟨fun d hd => plain_mv (h d hd), fun d hd e he => alike_mv (h d hd) (h e he), fun d hd => by
  obtain ⟨i, j, ws, k, rfl, _⟩ := mv_of (h d hd)
  exact ⟨_, _, rfl⟩⟩
theorem wrd_bx {l : Nat} {d : PyData} (h : wrd l d = true) : bx 1 l d = true := by
  obtain ⟨ws, rfl, hl⟩ := wrd_of h
  exact bx_list (by simpa using hl) fun x hx => by
    obtain ⟨i, _, rfl⟩ := List.mem_map.mp hx
    rfl
theorem pr_bx {l k : Nat} {d : PyData} (h : pr l d = true) (hl : l ≤ k) (hk : 2 ≤ k) : bx 2 k d = true := by
  obtain ⟨i, ws, rfl, hw⟩ := pr_of h
  exact bx_tuple (by simpa using hk) fun x hx => by
    have hx : x = .int i ∨ x = .list (ws.map PyData.int) := by simpa using hx
    rcases hx with rfl | rfl
    · rfl
    · exact bx_mono (Nat.le_refl _) hl (wrd_bx (wrd_mk hw))
theorem mv_bx {l k : Nat} {d : PyData} (h : mv l d = true) (hl : l ≤ k) (hk : 4 ≤ k) : bx 2 k d = true := by
  obtain ⟨i, j, ws, m, rfl, hw⟩ := mv_of h
  exact bx_tuple (by simpa using hk) fun x hx => by
    have hx : x = .int i ∨ x = .int j ∨ x = .list (ws.map PyData.int) ∨ x = .int m := by simpa using hx
    rcases hx with rfl | rfl | rfl | rfl
    · rfl
    · rfl
    · exact bx_mono (Nat.le_refl _) hl (wrd_bx (wrd_mk hw))
    · rfl
/-- a machine of the law's own: words of at most l signs, at most k rows of each kind -/
structure IsM (l k : Nat) (d : PyData) : Prop where
  ex : ∃ (a b c : Int) (ss ms es : List PyData), d = .tuple [.int a, .int b, .int c, .list ss, .list ms, .list es] ∧ 1 ≤ a ∧ a ≤ (k : Int) ∧ ss.length ≤ k ∧ ms.length ≤ k ∧ es.length ≤ k ∧ (∀ x ∈ ss, pr l x = true) ∧ (∀ x ∈ ms, mv l x = true) ∧ (∀ x ∈ es, pr l x = true)
theorem wrd_list {l : Nat} {xs : List PyData} : wrd l (.list xs) = true ↔ xs.length ≤ l ∧ ∀ x ∈ xs, whole x = true := by simp [wrd]
theorem wrd_mono {l k : Nat} {d : PyData} (h : wrd l d = true) (hk : l ≤ k) : wrd k d = true := by
  obtain ⟨ws, rfl, hw⟩ := wrd_of h
  exact wrd_mk (by omega)
theorem pr_mono {l k : Nat} {d : PyData} (h : pr l d = true) (hk : l ≤ k) : pr k d = true := by
  obtain ⟨i, ws, rfl, hw⟩ := pr_of h
  exact pr_mk (wrd_mk (by omega))
theorem mv_mono {l k : Nat} {d : PyData} (h : mv l d = true) (hk : l ≤ k) : mv k d = true := by
  obtain ⟨i, j, ws, s, rfl, hw⟩ := mv_of h
  exact mv_mk (wrd_mk (by omega))
theorem IsM.mono {l k l' k' : Nat} {d : PyData} (h : IsM l k d) (hl : l ≤ l') (hk : k ≤ k') : IsM l' k' d := by
  obtain ⟨a, b, c, ss, ms, es, rfl, a1, a2, hs, hm, he, is, im, ie⟩ := h.ex
  exact ⟨a, b, c, ss, ms, es, rfl, a1, by omega, by omega, by omega, by omega, fun x hx => pr_mono (is x hx) hl, fun x hx => mv_mono (im x hx) hl, fun x hx => pr_mono (ie x hx) hl⟩
theorem IsM.bx {l k : Nat} {d : PyData} (h : IsM l k d) (hk : 6 ≤ k) (hl : l ≤ k) : bx 4 k d = true := by
  obtain ⟨a, b, c, ss, ms, es, rfl, _, _, h1, h2, h3, h4, h5, h6⟩ := h.ex
  exact bx_tuple (by simpa using hk) fun x hx => by
    have hx : x = .int a ∨ x = .int b ∨ x = .int c ∨ x = .list ss ∨ x = .list ms ∨ x = .list es := by simpa using hx
    rcases hx with rfl | rfl | rfl | rfl | rfl | rfl
    · rfl
    · rfl
    · rfl
    · exact bx_list h1 fun x hx => pr_bx (h4 x hx) hl (by omega)
    · exact bx_list h2 fun x hx => mv_bx (h5 x hx) hl (by omega)
    · exact bx_list h3 fun x hx => pr_bx (h6 x hx) hl (by omega)
/-! ### the promises -/
def S_said : ZSp := fun ds n Q => ∃ (m : Int) (t : Nat), ds = [.int m, .int t] ∧ 1 ≤ m ∧ m < 1073741824 ∧ t ≤ 1000 ∧ n < 1099511000000 ∧ ∀ w n', wrd t w = true → n' ≤ n + 1003 → Q w n'
theorem S_said_at (m : Int) (t : Nat) (n : Nat) (Q : PyData → Nat → Prop) : S_said [.int m, .int t] n Q ↔ (1 ≤ m ∧ m < 1073741824 ∧ t ≤ 1000 ∧ n < 1099511000000 ∧ ∀ w n', wrd t w = true → n' ≤ n + 1003 → Q w n') := ⟨fun ⟨_, _, h, q⟩ => by
  simp only [List.cons.injEq, PyData.int.injEq, and_true] at h
  obtain ⟨rfl, h⟩ := h
  have := Int.ofNat.inj h
  subst this
  exact q, fun q => ⟨_, _, rfl, q⟩⟩
@[simp] theorem S_said_1 (m : Int) (n : Nat) (Q : PyData → Nat → Prop) : S_said [.int m, .int 1] n Q ↔ (1 ≤ m ∧ m < 1073741824 ∧ n < 1099511000000 ∧ ∀ w n', wrd 1 w = true → n' ≤ n + 1003 → Q w n') := (S_said_at m 1 n Q).trans (by simp)
@[simp] theorem S_said_2 (m : Int) (n : Nat) (Q : PyData → Nat → Prop) : S_said [.int m, .int 2] n Q ↔ (1 ≤ m ∧ m < 1073741824 ∧ n < 1099511000000 ∧ ∀ w n', wrd 2 w = true → n' ≤ n + 1003 → Q w n') := (S_said_at m 2 n Q).trans (by simp)
def S_unlike : PSp := fun ds Q => ∃ xs, ds = [.list xs] ∧ xs.length ≤ 100000 ∧ Rws xs ∧ ∀ ys : List PyData, ys.length ≤ xs.length → (∀ y ∈ ys, y ∈ xs) → Q (.list ys)
@[simp] theorem S_unlike_at (xs : List PyData) (Q : PyData → Prop) : S_unlike [.list xs] Q ↔ (xs.length ≤ 100000 ∧ Rws xs ∧ ∀ ys : List PyData, ys.length ≤ xs.length → (∀ y ∈ ys, y ∈ xs) → Q (.list ys)) := ⟨fun ⟨_, h, q⟩ => by cases h; exact q, fun q => ⟨_, rfl, q⟩⟩
def S_machine : ZSp := fun ds n Q => ∃ (a b c m : Int), ds = [.int a, .int b, .int c, .int m] ∧ 1 ≤ a ∧ a ≤ 100 ∧ 1 ≤ b ∧ b ≤ 1000 ∧ 1 ≤ c ∧ c ≤ 1000 ∧ 0 ≤ m ∧ m ≤ 100 ∧ n < 1099500000000 ∧ ∀ d n', IsM 2 100 d → n' ≤ n + 200000 → Q d n'
@[simp] theorem S_machine_at (a b c m : Int) (n : Nat) (Q : PyData → Nat → Prop) : S_machine [.int a, .int b, .int c, .int m] n Q ↔ (1 ≤ a ∧ a ≤ 100 ∧ 1 ≤ b ∧ b ≤ 1000 ∧ 1 ≤ c ∧ c ≤ 1000 ∧ 0 ≤ m ∧ m ≤ 100 ∧ n < 1099500000000 ∧ ∀ d n', IsM 2 100 d → n' ≤ n + 200000 → Q d n') := ⟨fun ⟨_, _, _, _, h, q⟩ => by cases h; exact q, fun q => ⟨_, _, _, _, rfl, q⟩⟩
section
variable {P : Program} {w : World} {K : PySem.W.Frag} {mg : Str → Option Value} {base : Heap}
theorem d__law_said (bi : ∀ x ∈ BI, mg x = none) (D : DefT K mg "_law_said" s__law_said ps__law_said) (D__law_draw : DefZ P w K mg base 1 "_law_draw" 1 S_draw) (D__law_pick : DefZ P w K mg base 2 "_law_pick" 1 S_pick) :
    DefZ P w K mg base 3 "_law_said" 2 S_said := by
  refine D.z N__law_said sc__law_said rfl fun f z cdv A outer s H E hr => ⟨_, _, jss_one (js_ret ((jl_sl ((jl_lc [("k", 3)] sc__law_said.nd (ji_range1 (by rfl) (bi _ (by decide)) (je_z 0 D__law_pick hr (ja_cons ((jl_lst (ja_cons je_int (ja_cons je_int (ja_cons je_int (ja_cons je_int (ja_cons je_int (ja_cons (je_var 2) ja_nil))))))).je') ja_nil))) (show blkC N__law_said (defScope s__law_said) _ _ = true by decide +kernel) (fun _ _ _ _ _ => jg_name 3 sc__law_said.nd rfl (by first | exact Or.inl rfl | exact Or.inr rfl)) (fun _ _ _ _ _ => jts_nil) (fun _ _ _ _ _ => je_z 0 D__law_draw hr (ja_cons (je_var 1) ja_nil))).je') jo_none (jo_some (je_var 2))).je')), fun ds n Q hl h => ?_⟩
  obtain ⟨m, t, rfl, m1, m2, ht, hn, q⟩ := h
  simp [startZ, wLc_def]
  have go : ∀ j : Nat, j ≤ 1002 → LcIn (wgN 3) wYes (wCallZ 0 1 S_draw (wCons (wVar 1) wNil)) [3] ⟨[S.stm, S.val (PyData.int m), S.val (PyData.int t), S.no], n⟩ (fun ds n => Q (PyData.list (DD.cutD ds none (some t))) n) (rgD 0 j) (n + 1) := fun j hj => by
    refine lci_pred (fun d => whole d = true) 1 (by simp; omega) (fun k d n1 Q' hk hd hn1 hQ => ?_) fun rs n' hrs hp hn' => ?_
    · simp at hk
      simp [m1, m2]
      exact ⟨by omega, fun x _ _ => hQ _ _ rfl (by omega)⟩
    · simp at hn'
      rw [cutD_upto]
      exact q _ _ (by simp [wrd, Nat.min_le_left]; exact fun x hx => hp x (List.mem_of_mem_take hx)) (by omega)
  exact ⟨by omega, go 0 (by omega), go 1 (by omega), go 2 (by omega), by omega, go t (by omega)⟩
end
end MC
namespace MC
open PySem PySem.Spec PyProof.Rows L2 DD
open PySem.W (alike dataLt dataLe AllAlike Sortable EachIs)
/-! ### told: lists as tuples -/
mutual
def told : PyData → PyData
  | .list xs => .tuple (tolds xs)
  | .tuple xs => .tuple (tolds xs)
  | .none => .none
  | .bool b => .bool b
  | .int i => .int i
  | .str x => .str x
  | .dict es => .dict es
def tolds : List PyData → List PyData
  | [] => []
  | x :: xs => told x :: tolds xs
end
theorem tolds_map : ∀ xs : List PyData, tolds xs = xs.map told
  | [] => rfl
  | x :: xs => by rw [tolds, tolds_map xs]; rfl
theorem told_seq {d : PyData} {xs : List PyData} (h : seqD d = some xs) : told d = .tuple (xs.map told) := by
  cases d <;> simp [seqD] at h <;> subst h <;> simp [told, tolds_map]
theorem told_no {d : PyData} (h : seqD d = none) : told d = d := by cases d <;> first | rfl | (simp [seqD] at h)
mutual
def tame : PyData → Bool
  | .list xs => tames xs
  | .tuple xs => tames xs
  | .dict es => es.isEmpty
  | .str x => PyData.canLay0 (.str x)
  | .none => true
  | .bool _ => true
  | .int _ => true
def tames : List PyData → Bool
  | [] => true
  | x :: xs => tame x && tames xs
end
mutual
def sz : PyData → Nat
  | .list xs => szs xs + 1
  | .tuple xs => szs xs + 1
  | .none => 1
  | .bool _ => 1
  | .int _ => 1
  | .str _ => 1
  | .dict _ => 1
def szs : List PyData → Nat
  | [] => 0
  | x :: xs => sz x + szs xs
end
theorem tames_all : ∀ xs : List PyData, tames xs = xs.all tame
  | [] => rfl
  | x :: xs => by rw [tames, tames_all xs]; rfl
theorem tame_seq {d : PyData} {xs : List PyData} (h : seqD d = some xs) : tame d = xs.all tame := by
  cases d <;> simp [seqD] at h <;> subst h <;> simp only [tame, tames_all]
theorem sz_seq {d : PyData} {xs : List PyData} (h : seqD d = some xs) : sz d = szs xs + 1 := by
  cases d <;> simp [seqD] at h <;> subst h <;> rfl
theorem ht_seq {d : PyData} {xs : List PyData} (h : seqD d = some xs) : ht d = hts xs + 1 := by
  cases d <;> simp [seqD] at h <;> subst h <;> rfl
theorem sz_pos (d : PyData) : 1 ≤ sz d := by cases d <;> simp [sz]
theorem szs_len : ∀ xs : List PyData, xs.length ≤ szs xs
  | [] => by simp [szs]
  | x :: xs => by
    have := szs_len xs
    have := sz_pos x
    rw [szs, List.length_cons]; omega
theorem szs_mem {xs : List PyData} : ∀ d ∈ xs, sz d ≤ szs xs := by
  induction xs with
  | nil => intro d hd; cases hd
  | cons x xs ih =>
    intro d hd
    rw [szs]
    rcases List.mem_cons.mp hd with e | hd
    · rw [e]; omega
    · have := ih d hd; omega
theorem szs_app : ∀ xs ys : List PyData, szs (xs ++ ys) = szs xs + szs ys
  | [], ys => by simp [szs]
  | x :: xs, ys => by rw [List.cons_append, szs, szs, szs_app xs ys]; omega
/-- data that may be copied, compared, looked at -/
theorem tame_gd : ∀ (n : Nat) (d : PyData), ht d ≤ n → tame d = true → sz d ≤ 100000 → gd d = true ∧ nd d = true ∧ lenOk d = true := by
  intro n
  induction n with
  | zero =>
    intro d h t s
    cases d with
    | list xs => simp [ht] at h
    | tuple xs => simp [ht] at h
    | dict es => simp [ht] at h
    | str x => exact ⟨t, rfl, rfl⟩
    | _ => exact ⟨rfl, rfl, rfl⟩
  | succ n ih =>
    intro d h t s
    cases e : seqD d with
    | none =>
      cases d with
      | list xs => cases e
      | tuple xs => cases e
      | dict es =>
        have : es = [] := by simpa [tame] using t
        subst this
        exact ⟨rfl, rfl, rfl⟩
      | str x => exact ⟨t, rfl, rfl⟩
      | _ => exact ⟨rfl, rfl, rfl⟩
    | some xs =>
      have h1 := ht_seq e
      have h2 := sz_seq e
      have h3 := szs_len xs
      rw [tame_seq e, List.all_eq_true] at t
      have a := fun x hx => ih x (by have := hts_mem (xs := xs) x hx; omega) (t x hx) (by have := szs_mem (xs := xs) x hx; omega)
      have b1 := gds_of fun x hx => (a x hx).1
      have b2 := nds_of fun x hx => (a x hx).2.1
      have b4 := lenOks_of fun x hx => (a x hx).2.2
      have hl' : xs.length ≤ 100000 := by omega
      cases d <;> simp [seqD] at e <;> subst e <;> simp [gd, nd, lenOk, b1, b2, b4, hl']
/-! ### the law's look -/
def isW (m d : PyData) : Bool := match seqD d with
  | some xs => xs.all (numOk m)
  | none => false
def okPair (st sg : Int) (x : PyData) : Bool := match seqD x with
  | some [a, b] => below st a && isW (.int sg) b
  | _ => false
def okMove (st le sg : Int) (x : PyData) : Bool := match seqD x with
  | some [a, b, c, e] => below st a && below le b && isW (.int sg) c && below st e
  | _ => false
def isPairs (st sg : Int) (d : PyData) : Bool := match seqD d with
  | some xs => xs.all (okPair st sg) && ascD (xs.map told)
  | none => false
def isMoves (st le sg : Int) (d : PyData) : Bool := match seqD d with
  | some xs => xs.all (okMove st le sg) && ascD (xs.map told)
  | none => false
def lookM (d : PyData) : Bool := match seqD d with
  | some [a, b, c, s, m, e] => (posI a && posI b && posI c) && (isPairs (intOf a) (intOf c) s && isMoves (intOf a) (intOf b) (intOf c) m && isPairs (intOf a) (intOf c) e)
  | _ => false
theorem numOk_int {m d : PyData} (h : numOk m d = true) : ∃ i, d = .int i := by
  unfold numOk at h
  cases d with
  | int i => exact ⟨i, rfl⟩
  | _ => cases m <;> simp at h
theorem told_nums {m : PyData} {xs : List PyData} (h : xs.all (numOk m) = true) : xs.map told = xs := by
  induction xs with
  | nil => rfl
  | cons x xs ih =>
    rw [List.all_cons, Bool.and_eq_true] at h
    obtain ⟨i, rfl⟩ := numOk_int h.1
    rw [List.map_cons, ih h.2]
    rfl
theorem kW_none (m d : PyData) : noneD (keptW m d) = !isW m d := by
  unfold keptW isW
  cases seqD d with
  | none => rfl
  | some xs =>
    show noneD (if xs.all (numOk m) = true then PyData.tuple xs else .none) = !xs.all (numOk m)
    cases xs.all (numOk m) <;> rfl
theorem kW_told {m d : PyData} (h : isW m d = true) : keptW m d = told d := by
  unfold isW at h
  unfold keptW
  cases e : seqD d with
  | none => rw [e] at h; cases h
  | some xs =>
    rw [e] at h
    have h : xs.all (numOk m) = true := h
    show (if xs.all (numOk m) = true then PyData.tuple xs else .none) = _
    rw [if_pos h, told_seq e, told_nums h]
theorem kP_none (st sg : Int) (x : PyData) : noneD (keptP st sg x) = !okPair st sg x := by
  unfold keptP okPair
  split
  · rename_i a b e
    first | rw [kW_none, Bool.not_not, e] | rw [kW_none, Bool.not_not]
    show noneD (if (below st a && isW (.int sg) b) = true then _ else _) = !(below st a && isW (.int sg) b)
    cases below st a && isW (.int sg) b <;> rfl
  · rename_i h
    first
      | rfl
      | (split
         · rename_i a b e; exact absurd e (h a b)
         · rfl)
theorem kP_told {st sg : Int} {x : PyData} (h : okPair st sg x = true) : keptP st sg x = told x := by
  unfold okPair at h
  split at h
  · rename_i a b e
    rw [Bool.and_eq_true] at h
    unfold keptP
    rw [e]
    simp only [kW_none, Bool.not_not, h.1, h.2, Bool.and_self, if_true]
    obtain ⟨i, rfl⟩ := below_int h.1
    rw [told_seq e, kW_told h.2]
    rfl
  · cases h
theorem kV_none (st le sg : Int) (x : PyData) : noneD (keptV st le sg x) = !okMove st le sg x := by
  unfold keptV okMove
  split
  · rename_i a b c d e
    first | rw [kW_none, Bool.not_not, e] | rw [kW_none, Bool.not_not]
    show noneD (if (below st a && below le b && isW (.int sg) c && below st d) = true then _ else _) = !(below st a && below le b && isW (.int sg) c && below st d)
    cases below st a && below le b && isW (.int sg) c && below st d <;> rfl
  · rename_i h
    first
      | rfl
      | (split
         · rename_i a b c d e; exact absurd e (h a b c d)
         · rfl)
theorem kV_told {st le sg : Int} {x : PyData} (h : okMove st le sg x = true) : keptV st le sg x = told x := by
  unfold okMove at h
  split at h
  · rename_i a b c d e
    simp only [Bool.and_eq_true] at h
    unfold keptV
    rw [e]
    simp only [kW_none, Bool.not_not, h.1.1.1, h.1.1.2, h.1.2, h.2, Bool.and_self, if_true]
    obtain ⟨i, rfl⟩ := below_int h.1.1.1
    obtain ⟨j, rfl⟩ := below_int h.1.1.2
    obtain ⟨k, rfl⟩ := below_int h.2
    rw [told_seq e, kW_told h.1.2]
    rfl
  · cases h
theorem kA_none {f : PyData → PyData} {ok : PyData → Bool} (h1 : ∀ x, noneD (f x) = !ok x) (h2 : ∀ x, ok x = true → f x = told x) (xs : List PyData) : noneD (keptA (xs.map f)) = !(xs.all ok && ascD (xs.map told)) := by
  have e : (xs.map f).any noneD = !xs.all ok := by
    induction xs with
    | nil => rfl
    | cons x xs ih => rw [List.map_cons, List.any_cons, ih, h1, List.all_cons]; cases ok x <;> rfl
  unfold keptA
  rw [e]
  cases ha : xs.all ok with
  | false => rfl
  | true =>
    have : xs.map f = xs.map told := List.map_congr_left fun x hx => h2 x (List.all_eq_true.mp ha x hx)
    rw [this]
    cases ascD (xs.map told) <;> rfl
theorem asc_pairs {st sg : Int} {xs : List PyData} (h : xs.all (okPair st sg) = true) : AscOk (xs.map told) := by
  have : xs.map (keptP st sg) = xs.map told := List.map_congr_left fun x hx => kP_told (List.all_eq_true.mp h x hx)
  rw [← this]
  refine (rows_P st sg xs).asc fun x hx => ?_
  obtain ⟨y, hy, rfl⟩ := List.mem_map.mp hx
  rw [kP_none, List.all_eq_true.mp h y hy]; rfl
theorem asc_moves {st le sg : Int} {xs : List PyData} (h : xs.all (okMove st le sg) = true) : AscOk (xs.map told) := by
  have : xs.map (keptV st le sg) = xs.map told := List.map_congr_left fun x hx => kV_told (List.all_eq_true.mp h x hx)
  rw [← this]
  refine (rows_V st le sg xs).asc fun x hx => ?_
  obtain ⟨y, hy, rfl⟩ := List.mem_map.mp hx
  rw [kV_none, List.all_eq_true.mp h y hy]; rfl
theorem look_kept (d : PyData) : (!noneD (keptM d)) = lookM d := by
  unfold keptM lookM
  split
  · rename_i a b c s m e q
    try rw [q]
    unfold keptM6
    show (!noneD (if ((posI a && posI b && posI c) && (isSeq s && isSeq m && isSeq e)) = true then _ else _)) = ((posI a && posI b && posI c) && (isPairs (intOf a) (intOf c) s && isMoves (intOf a) (intOf b) (intOf c) m && isPairs (intOf a) (intOf c) e))
    cases hp : (posI a && posI b && posI c) with
    | false => rfl
    | true =>
      rw [Bool.true_and, Bool.true_and]
      cases es : seqD s with
      | none =>
        have : isSeq s = false := isSeq_no es
        simp [this, isPairs, es]
      | some xs =>
        cases em : seqD m with
        | none =>
          have : isSeq m = false := isSeq_no em
          simp [this, isMoves, em]
        | some ys =>
          cases ee : seqD e with
          | none =>
            have : isSeq e = false := isSeq_no ee
            simp [this, isPairs, ee]
          | some zs =>
            have i1 : isSeq s = true := isSeq_of es
            have i2 : isSeq m = true := isSeq_of em
            have i3 : isSeq e = true := isSeq_of ee
            have h1 : isPairs (intOf a) (intOf c) s = (xs.all (okPair (intOf a) (intOf c)) && ascD (xs.map told)) := by unfold isPairs; rw [es]
            have h2 : isMoves (intOf a) (intOf b) (intOf c) m = (ys.all (okMove (intOf a) (intOf b) (intOf c)) && ascD (ys.map told)) := by unfold isMoves; rw [em]
            have h3 : isPairs (intOf a) (intOf c) e = (zs.all (okPair (intOf a) (intOf c)) && ascD (zs.map told)) := by unfold isPairs; rw [ee]
            rw [h1, h2, h3, i1, i2, i3]
            simp only [Bool.and_self, if_true, itemsOf, es, em, ee, Option.getD_some]
            unfold mkM
            rw [kA_none (kP_none _ _) (fun x hx => kP_told hx), kA_none (kV_none _ _ _) (fun x hx => kV_told hx), kA_none (kP_none _ _) (fun x hx => kP_told hx)]
            cases (xs.all (okPair (intOf a) (intOf c)) && ascD (xs.map told)) <;> cases (ys.all (okMove (intOf a) (intOf b) (intOf c)) && ascD (ys.map told)) <;> cases (zs.all (okPair (intOf a) (intOf c)) && ascD (zs.map told)) <;> rfl
  · rename_i h
    first
      | rfl
      | (split
         · rename_i a b c s m e q; exact absurd q (h a b c s m e)
         · rfl)
/-! ### the look sees no difference of lists and tuples -/
theorem seq_told (d : PyData) : seqD (told d) = (seqD d).map (·.map told) := by
  cases d <;> simp [told, seqD, tolds_map]
theorem numOk_told (m d : PyData) : numOk m (told d) = numOk m d := by cases d <;> first | rfl | (cases m <;> simp [told, numOk])
theorem below_told (m : Int) (d : PyData) : below m (told d) = below m d := by cases d <;> simp [told]
theorem isW_told (m d : PyData) : isW m (told d) = isW m d := by
  unfold isW
  rw [seq_told]
  cases seqD d with
  | none => rfl
  | some xs =>
    show (xs.map told).all (numOk m) = xs.all (numOk m)
    rw [List.all_map]
    congr 1
    funext x
    exact numOk_told m x
theorem told_told (n : Nat) : ∀ d : PyData, ht d ≤ n → told (told d) = told d := by
  induction n with
  | zero => intro d h; cases d <;> first | rfl | (simp [ht] at h)
  | succ n ih =>
    intro d h
    cases e : seqD d with
    | none => rw [told_no e, told_no e]
    | some xs =>
      have h1 := ht_seq e
      rw [told_seq e]
      show PyData.tuple (tolds (xs.map told)) = _
      rw [tolds_map, List.map_map]
      congr 1
      exact List.map_congr_left fun x hx => ih x (by have := hts_mem (xs := xs) x hx; omega)
theorem told2 (d : PyData) : told (told d) = told d := told_told _ d (Nat.le_refl _)
theorem okPair_told (st sg : Int) (x : PyData) : okPair st sg (told x) = okPair st sg x := by
  unfold okPair
  rw [seq_told]
  cases seqD x with
  | none => rfl
  | some xs => match xs with
    | [a, b] => show (below st (told a) && isW (.int sg) (told b)) = _; rw [below_told, isW_told]
    | [] => rfl
    | [_] => rfl
    | _ :: _ :: _ :: _ => rfl
theorem okMove_told (st le sg : Int) (x : PyData) : okMove st le sg (told x) = okMove st le sg x := by
  unfold okMove
  rw [seq_told]
  cases seqD x with
  | none => rfl
  | some xs => match xs with
    | [a, b, c, d] => show (below st (told a) && below le (told b) && isW (.int sg) (told c) && below st (told d)) = _; rw [below_told, below_told, below_told, isW_told]
    | [] => rfl
    | [_] => rfl
    | [_, _] => rfl
    | [_, _, _] => rfl
    | _ :: _ :: _ :: _ :: _ :: _ => rfl
theorem isPairs_told (st sg : Int) (d : PyData) : isPairs st sg (told d) = isPairs st sg d := by
  unfold isPairs
  rw [seq_told]
  cases seqD d with
  | none => rfl
  | some xs =>
    show ((xs.map told).all (okPair st sg) && ascD ((xs.map told).map told)) = _
    rw [List.all_map, List.map_map]
    have h1 : (okPair st sg ∘ told) = okPair st sg := funext fun x => okPair_told st sg x
    have h2 : (told ∘ told) = told := funext fun x => told2 x
    rw [h1, h2]
theorem isMoves_told (st le sg : Int) (d : PyData) : isMoves st le sg (told d) = isMoves st le sg d := by
  unfold isMoves
  rw [seq_told]
  cases seqD d with
  | none => rfl
  | some xs =>
    show ((xs.map told).all (okMove st le sg) && ascD ((xs.map told).map told)) = _
    rw [List.all_map, List.map_map]
    have h1 : (okMove st le sg ∘ told) = okMove st le sg := funext fun x => okMove_told st le sg x
    have h2 : (told ∘ told) = told := funext fun x => told2 x
    rw [h1, h2]
theorem posI_told (d : PyData) : posI (told d) = posI d := by cases d <;> rfl
theorem intOf_told (d : PyData) : intOf (told d) = intOf d := by cases d <;> rfl
theorem lookM_told (d : PyData) : lookM (told d) = lookM d := by
  unfold lookM
  rw [seq_told]
  cases seqD d with
  | none => rfl
  | some xs => match xs with
    | [a, b, c, s, m, e] =>
      show ((posI (told a) && posI (told b) && posI (told c)) && (isPairs (intOf (told a)) (intOf (told c)) (told s) && isMoves (intOf (told a)) (intOf (told b)) (intOf (told c)) (told m) && isPairs (intOf (told a)) (intOf (told c)) (told e))) = _
      simp only [posI_told, intOf_told, isPairs_told, isMoves_told]
    | [] => rfl
    | [_] => rfl
    | [_, _] => rfl
    | [_, _, _] => rfl
    | [_, _, _, _] => rfl
    | [_, _, _, _, _] => rfl
    | _ :: _ :: _ :: _ :: _ :: _ :: _ :: _ => rfl
theorem look_same {d e : PyData} (h : told d = told e) : lookM d = lookM e := by rw [← lookM_told d, ← lookM_told e, h]
theorem ht_told (n : Nat) : ∀ d : PyData, ht d ≤ n → ht (told d) = ht d ∧ sz (told d) = sz d ∧ tame (told d) = tame d := by
  induction n with
  | zero => intro d h; cases d <;> first | exact ⟨rfl, rfl, rfl⟩ | (simp [ht] at h)
  | succ n ih =>
    intro d h
    cases e : seqD d with
    | none => rw [told_no e]; exact ⟨rfl, rfl, rfl⟩
    | some xs =>
      have h1 := ht_seq e
      have h2 := sz_seq e
      have h3 := tame_seq e
      have key : ∀ xs : List PyData, hts xs ≤ n → hts (xs.map told) = hts xs ∧ szs (xs.map told) = szs xs ∧ (xs.map told).all tame = xs.all tame := by
        intro xs
        induction xs with
        | nil => intro _; exact ⟨rfl, rfl, rfl⟩
        | cons x xs ih2 =>
          intro hx
          rw [hts] at hx
          obtain ⟨a1, a2, a3⟩ := ih x (by omega)
          obtain ⟨b1, b2, b3⟩ := ih2 (by omega)
          rw [List.map_cons, hts, hts, szs, szs, List.all_cons, List.all_cons, a1, a2, a3, b1, b2, b3]
          exact ⟨rfl, rfl, rfl⟩
      obtain ⟨c1, c2, c3⟩ := key xs (by omega)
      have e' : seqD (told d) = some (xs.map told) := by rw [seq_told, e]; rfl
      rw [ht_seq e', sz_seq e', tame_seq e', c1, c2, c3, h1, h2, h3]
      exact ⟨rfl, rfl, rfl⟩
theorem like {d e : PyData} (h : told e = told d) : ht e = ht d ∧ sz e = sz d ∧ tame e = tame d := by
  have a := ht_told _ d (Nat.le_refl _)
  have b := ht_told _ e (Nat.le_refl _)
  rw [h] at b
  exact ⟨b.1.symm.trans a.1, b.2.1.symm.trans a.2.1, b.2.2.symm.trans a.2.2⟩
end MC
namespace MC
open PySem PySem.Spec PyProof.Rows L2 DD
open PySem.W (alike dataLt dataLe AllAlike Sortable EachIs)
open Evl (Ex)
section
variable {P : Program} {w : World} {K : PySem.W.Frag} {mg : Str → Option Value} {base : Heap}
def spLaw (K : PySem.W.Frag) : Sp := fun vs H Q _ => ∃ (a : Addr) (ns : List Int), vs = [.ref a] ∧ SqL K H a (ns.map V.int) ∧ ns.length ≤ 63 ∧ ∀ H', Q (.bl true) H'
def spStream (K : PySem.W.Frag) : Sp := fun vs H Q _ => ∃ (a : Addr) (ns : List Int), vs = [.ref a] ∧ SqL K H a (ns.map V.int) ∧ ns.length ≤ 63 ∧ ∀ st sl : Addr, H sl = none → H st = none → st ≠ sl → Q (.ref st) (L2.upd (L2.upd H sl (.lst (ns.map V.int))) st (.lst [.ref sl, .int 0, .int 0, .int 17]))
theorem ok_stream (bi : ∀ x ∈ BI, mg x = none) {f : Addr} {fd : FuncData} (F : Fun K "_law_stream" "_law_stream" s__law_stream f fd) : FnOk P w K mg base CX0 1 f fd ["script"] (spStream K) := by
  refine F.ok sc__law_stream (fun vs H Q E h => ?_) (fun cdv A outer s H vs Q E hr h => ?_)
  · obtain ⟨a, ns, rfl, _⟩ := h
    rfl
  · obtain ⟨a, ns, rfl, hS, hl, k⟩ := h
    refine ⟨_, pss_one (ps_ret (pe_lst (pa_cons (pe_callTy call_list_of (by rfl) (bi _ (by decide)) (by decide +kernel) (pa_cons (pv 0) pa_nil)) (pa_cons pe_int (pa_cons pe_int (pa_cons pe_int pa_nil)))))), ?_⟩
    refine ⟨_, rfl, a, _, rfl, .inl hS, fun sl hsl => ⟨by show 4 ≤ sizeLine; decide, fun st hst => ?_⟩⟩
    have ne : st ≠ sl := fun q => by
      rw [q, upd_same] at hst
      cases hst
    exact k st sl hsl (by rwa [upd_ne ne] at hst) ne
/-- a thing that the law asks about -/
structure Th (t : PyData) : Prop where
  tm : tame t = true
  sz : MC.sz t ≤ 60000
  ht : MC.ht t ≤ 8
theorem szs_le {xs : List PyData} {c : Nat} (h : ∀ x ∈ xs, sz x ≤ c) : szs xs ≤ xs.length * c := by
  induction xs with
  | nil => simp [szs]
  | cons x xs ih =>
    have h1 := h x (by simp)
    have h2 := ih fun y hy => h y (by simp [hy])
    rw [szs, List.length_cons, Nat.add_mul]; omega
theorem hts_ints (ws : List Int) : hts (ws.map PyData.int) ≤ 0 := hts_of fun d hd => by
  obtain ⟨i, _, rfl⟩ := List.mem_map.mp hd
  simp [ht]
theorem szs_ints (ws : List Int) : szs (ws.map PyData.int) ≤ ws.length := by
  have := szs_le (xs := ws.map PyData.int) (c := 1) fun d hd => by
    obtain ⟨i, _, rfl⟩ := List.mem_map.mp hd
    simp [sz]
  simpa using this
theorem tames_ints (ws : List Int) : tames (ws.map PyData.int) = true := by
  rw [tames_all, List.all_eq_true]
  intro d hd
  obtain ⟨i, _, rfl⟩ := List.mem_map.mp hd
  rfl
theorem pr_th {d : PyData} (h : pr 10 d = true) : tame d = true ∧ sz d ≤ 15 ∧ ht d ≤ 2 := by
  obtain ⟨i, ws, rfl, hw⟩ := pr_of h
  have h1 := hts_ints ws
  have h2 := szs_ints ws
  exact ⟨by simp [tame, tames, tames_ints], by simp [sz, szs]; omega, by simp [ht, hts]; omega⟩
theorem mv_th {d : PyData} (h : mv 10 d = true) : tame d = true ∧ sz d ≤ 15 ∧ ht d ≤ 2 := by
  obtain ⟨i, j, ws, k, rfl, hw⟩ := mv_of h
  have h1 := hts_ints ws
  have h2 := szs_ints ws
  exact ⟨by simp [tame, tames, tames_ints], by simp [sz, szs]; omega, by simp [ht, hts]; omega⟩
/-- rows of a machine -/
def Rw (xs : List PyData) : Prop := xs.all tame = true ∧ hts xs ≤ 2
theorem Rw.rev {xs : List PyData} (h : Rw xs) : Rw xs.reverse := ⟨by rw [List.all_eq_true] at *; exact fun x hx => List.all_eq_true.mp h.1 x (List.mem_reverse.mp hx), hts_of fun x hx => by have := hts_mem (xs := xs) x (List.mem_reverse.mp hx); have := h.2; omega⟩
theorem Rw.app {xs ys : List PyData} (h : Rw xs) (hs : ∀ y ∈ ys, y ∈ xs) : Rw (xs ++ ys) := by
  refine ⟨?_, hts_of fun x hx => ?_⟩
  · rw [List.all_eq_true]
    intro x hx
    rcases List.mem_append.mp hx with q | q
    · exact List.all_eq_true.mp h.1 x q
    · exact List.all_eq_true.mp h.1 x (hs x q)
  · have h2 := h.2
    rcases List.mem_append.mp hx with q | q
    · have := hts_mem (xs := xs) x q; omega
    · have := hts_mem (xs := xs) x (hs x q); omega
theorem th_mk {a b c : Int} {x y z : List PyData} (hx : Rw x) (hy : Rw y) (hz : Rw z) (h : szs x + szs y + szs z ≤ 50000) : Th (.tuple [.int a, .int b, .int c, .list x, .list y, .list z]) := by
  have h1 := hx.2
  have h2 := hy.2
  have h3 := hz.2
  refine ⟨?_, by simp [sz, szs]; omega, by simp [ht, hts]; omega⟩
  simp [tame, tames, tames_all]
  exact ⟨List.all_eq_true.mp hx.1, List.all_eq_true.mp hy.1, List.all_eq_true.mp hz.1⟩
theorem rows_ok {xs : List PyData} (h : ∀ x ∈ xs, tame x = true ∧ sz x ≤ 15 ∧ ht x ≤ 2) (hl : xs.length ≤ 600) : Rw xs ∧ szs xs ≤ 9000 := by
  refine ⟨⟨List.all_eq_true.mpr fun x hx => (h x hx).1, hts_of fun x hx => (h x hx).2.2⟩, ?_⟩
  have := szs_le (c := 15) fun x hx => (h x hx).2.1
  omega
theorem Th.look {t : PyData} (h : Th t) : gd t = true ∧ nd t = true ∧ lenOk t = true := tame_gd _ t (Nat.le_refl _) h.tm (by have := h.sz; omega)
end
end MC
namespace MC
open PySem PySem.Spec PyProof.Rows L2 DD
open Evl (Ex)
open PySem.W (alike dataLt dataLe AllAlike Sortable EachIs)
/-! ### right machines: the law's drawing, with what a machine has to be -/
theorem Wb.wrd {l : Nat} {m : Int} {d : PyData} (h : Wb l m d) : wrd l d = true := by
  obtain ⟨ws, rfl, a, _⟩ := h
  exact wrd_mk a
theorem Pb.pr {l : Nat} {A m : Int} {d : PyData} (h : Pb l A m d) : pr l d = true := by
  obtain ⟨i, ws, rfl, _, a, _⟩ := h
  exact pr_mk (wrd_mk a)
theorem Mb.mv {l : Nat} {A B m : Int} {d : PyData} (h : Mb l A B m d) : mv l d = true := by
  obtain ⟨i, j, ws, k, rfl, _, _, _, a, _⟩ := h
  exact mv_mk (wrd_mk a)
theorem rws_pb {l : Nat} {A m : Int} {xs : List PyData} (h : ∀ d ∈ xs, Pb l A m d) : Rws xs := rws_pr fun d hd => Pb.pr (h d hd)
theorem rws_mb {l : Nat} {A B m : Int} {xs : List PyData} (h : ∀ d ∈ xs, Mb l A B m d) : Rws xs := rws_mv fun d hd => Mb.mv (h d hd)
structure IsV (l k : Nat) (B C : Int) (d : PyData) : Prop where
  ex : ∃ (a b c : Int) (ss ms es : List PyData), d = .tuple [.int a, .int b, .int c, .list ss, .list ms, .list es] ∧ 1 ≤ a ∧ a ≤ (k : Int) ∧ 1 ≤ b ∧ b ≤ B ∧ 1 ≤ c ∧ c ≤ C ∧ ss.length ≤ k ∧ ms.length ≤ k ∧ es.length ≤ k ∧
    (∀ x ∈ ss, Pb l a c x) ∧ (∀ x ∈ ms, Mb l a b c x) ∧ (∀ x ∈ es, Pb l a c x) ∧ Asc ss ∧ Asc ms ∧ Asc es
theorem IsV.mono {l k l' k' : Nat} {B C B' C' : Int} {d : PyData} (h : IsV l k B C d) (hl : l ≤ l') (hk : k ≤ k') (hB : B ≤ B') (hC : C ≤ C') : IsV l' k' B' C' d := by
  obtain ⟨a, b, c, ss, ms, es, rfl, a1, a2, b1, b2, c1, c2, hs, hm, he, is, im, ie, r⟩ := h.ex
  exact ⟨a, b, c, ss, ms, es, rfl, a1, by omega, b1, by omega, c1, by omega, by omega, by omega, by omega, fun x hx => (is x hx).mono hl (by omega) (by omega), fun x hx => (im x hx).mono hl (by omega) (by omega) (by omega), fun x hx => (ie x hx).mono hl (by omega) (by omega), r⟩
theorem IsV.m {l k : Nat} {B C : Int} {d : PyData} (h : IsV l k B C d) : IsM l k d := by
  obtain ⟨a, b, c, ss, ms, es, rfl, a1, a2, b1, b2, c1, c2, hs, hm, he, is, im, ie, r⟩ := h.ex
  exact ⟨a, b, c, ss, ms, es, rfl, a1, a2, hs, hm, he, fun x hx => Pb.pr (is x hx), fun x hx => Mb.mv (im x hx), fun x hx => Pb.pr (ie x hx)⟩
def V_said : ZSp := fun ds n Q => ∃ (m : Int) (t : Nat), ds = [.int m, .int t] ∧ 1 ≤ m ∧ m < 1073741824 ∧ t ≤ 1000 ∧ n < 1099511000000 ∧ ∀ w n', Wb t m w → n' ≤ n + 1003 → Q w n'
theorem V_said_at (m : Int) (t : Nat) (n : Nat) (Q : PyData → Nat → Prop) : V_said [.int m, .int t] n Q ↔ (1 ≤ m ∧ m < 1073741824 ∧ t ≤ 1000 ∧ n < 1099511000000 ∧ ∀ w n', Wb t m w → n' ≤ n + 1003 → Q w n') := ⟨fun ⟨_, _, h, q⟩ => by
  simp only [List.cons.injEq, PyData.int.injEq, and_true] at h
  obtain ⟨rfl, h⟩ := h
  have := Int.ofNat.inj h
  subst this
  exact q, fun q => ⟨_, _, rfl, q⟩⟩
@[simp] theorem V_said_1 (m : Int) (n : Nat) (Q : PyData → Nat → Prop) : V_said [.int m, .int 1] n Q ↔ (1 ≤ m ∧ m < 1073741824 ∧ n < 1099511000000 ∧ ∀ w n', Wb 1 m w → n' ≤ n + 1003 → Q w n') := (V_said_at m 1 n Q).trans (by simp)
@[simp] theorem V_said_2 (m : Int) (n : Nat) (Q : PyData → Nat → Prop) : V_said [.int m, .int 2] n Q ↔ (1 ≤ m ∧ m < 1073741824 ∧ n < 1099511000000 ∧ ∀ w n', Wb 2 m w → n' ≤ n + 1003 → Q w n') := (V_said_at m 2 n Q).trans (by simp)
def V_unlike : PSp := fun ds Q => ∃ xs, ds = [.list xs] ∧ xs.length ≤ 100000 ∧ Rws xs ∧ ∀ ys : List PyData, ys.length ≤ xs.length → (∀ y ∈ ys, y ∈ xs) → Asc ys → Q (.list ys)
@[simp] theorem V_unlike_at (xs : List PyData) (Q : PyData → Prop) : V_unlike [.list xs] Q ↔ (xs.length ≤ 100000 ∧ Rws xs ∧ ∀ ys : List PyData, ys.length ≤ xs.length → (∀ y ∈ ys, y ∈ xs) → Asc ys → Q (.list ys)) := ⟨fun ⟨_, h, q⟩ => by cases h; exact q, fun q => ⟨_, rfl, q⟩⟩
def V_machine : ZSp := fun ds n Q => ∃ (a b c m : Int), ds = [.int a, .int b, .int c, .int m] ∧ 1 ≤ a ∧ a ≤ 100 ∧ 1 ≤ b ∧ b ≤ 1000 ∧ 1 ≤ c ∧ c ≤ 1000 ∧ 0 ≤ m ∧ m ≤ 100 ∧ n < 1099500000000 ∧ ∀ d n', IsV 2 100 b c d → n' ≤ n + 200000 → Q d n'
@[simp] theorem V_machine_at (a b c m : Int) (n : Nat) (Q : PyData → Nat → Prop) : V_machine [.int a, .int b, .int c, .int m] n Q ↔ (1 ≤ a ∧ a ≤ 100 ∧ 1 ≤ b ∧ b ≤ 1000 ∧ 1 ≤ c ∧ c ≤ 1000 ∧ 0 ≤ m ∧ m ≤ 100 ∧ n < 1099500000000 ∧ ∀ d n', IsV 2 100 b c d → n' ≤ n + 200000 → Q d n') := ⟨fun ⟨_, _, _, _, h, q⟩ => by cases h; exact q, fun q => ⟨_, _, _, _, rfl, q⟩⟩
section
variable {P : Program} {w : World} {K : PySem.W.Frag} {mg : Str → Option Value} {base : Heap}
theorem v__law_said (bi : ∀ x ∈ BI, mg x = none) (D : DefT K mg "_law_said" s__law_said ps__law_said) (D__law_draw : DefZ P w K mg base 1 "_law_draw" 1 S_draw) (D__law_pick : DefZ P w K mg base 2 "_law_pick" 1 S_pick) :
    DefZ P w K mg base 3 "_law_said" 2 V_said := by
  refine D.z N__law_said sc__law_said rfl fun f z cdv A outer s H E hr => ⟨_, _, jss_one (js_ret ((jl_sl ((jl_lc [("k", 3)] sc__law_said.nd (ji_range1 (by rfl) (bi _ (by decide)) (je_z 0 D__law_pick hr (ja_cons ((jl_lst (ja_cons je_int (ja_cons je_int (ja_cons je_int (ja_cons je_int (ja_cons je_int (ja_cons (je_var 2) ja_nil))))))).je') ja_nil))) (show blkC N__law_said (defScope s__law_said) _ _ = true by decide +kernel) (fun _ _ _ _ _ => jg_name 3 sc__law_said.nd rfl (by first | exact Or.inl rfl | exact Or.inr rfl)) (fun _ _ _ _ _ => jts_nil) (fun _ _ _ _ _ => je_z 0 D__law_draw hr (ja_cons (je_var 1) ja_nil))).je') jo_none (jo_some (je_var 2))).je')), fun ds n Q hl h => ?_⟩
  obtain ⟨m, t, rfl, m1, m2, ht, hn, q⟩ := h
  simp [startZ, wLc_def]
  have go : ∀ j : Nat, j ≤ 1002 → LcIn (wgN 3) wYes (wCallZ 0 1 S_draw (wCons (wVar 1) wNil)) [3] ⟨[S.stm, S.val (PyData.int m), S.val (PyData.int t), S.no], n⟩ (fun ds n => Q (PyData.list (DD.cutD ds none (some t))) n) (rgD 0 j) (n + 1) := fun j hj => by
    refine lci_pred (fun d => ∃ i, d = .int i ∧ (0 ≤ i ∧ i < m)) 1 (by simp; omega) (fun k d n1 Q' hk hd hn1 hQ => ?_) fun rs n' hrs hp hn' => ?_
    · simp at hk
      simp [m1, m2]
      exact ⟨by omega, fun x x0 x1 => hQ _ _ ⟨_, rfl, x0, x1⟩ (by omega)⟩
    · simp at hn'
      rw [cutD_upto]
      obtain ⟨ws, rfl, hw⟩ := ints_ex hp
      refine q _ _ ⟨ws.take t, by rw [List.map_take], by simp [Nat.min_le_left], fun x hx => hw x (List.mem_of_mem_take hx)⟩ (by omega)
  exact ⟨by omega, go 0 (by omega), go 1 (by omega), go 2 (by omega), by omega, go t (by omega)⟩
end
end MC
namespace MC
open PySem PySem.Spec PyProof.Rows L2 DD
open PySem.W (alike dataLt dataLe AllAlike Sortable EachIs)
open Evl (Ex)
abbrev s__law_reader : Stmt := top 61
abbrev N__law_reader : List Str := ["stream", "stands", "letters", "signs", "moves", "ends", "stand", "letter"]
abbrev ps__law_reader : List Str := ["stream", "stands", "letters", "signs"]
theorem sc__law_reader : FnScope N__law_reader ps__law_reader (defScope s__law_reader) := ⟨rfl, rfl, rfl, by decide +kernel, rfl, by decide +kernel, by decide +kernel⟩
section
variable {P : Program} {w : World} {K : PySem.W.Frag} {mg : Str → Option Value} {base : Heap}
/-- a reader of the law's own, of at most k rows -/
def rMove (p : PyData × PyData) : Prop := ∃ (i j : Int) (w : PyData) (s : Int), p = (.tuple [.int i, .int j], .tuple [w, .int s]) ∧ wrd 2 w = true
def rEnd (p : PyData × PyData) : Prop := ∃ (i : Int) (w : PyData), p = (.int i, w) ∧ wrd 2 w = true
structure IsR (k : Nat) (d : PyData) : Prop where
  ex : ∃ (a b c : Int) (w0 : PyData) (ms es : List (PyData × PyData)), d = .tuple [.int a, .int b, .int c, w0, .dict ms, .dict es] ∧ 1 ≤ a ∧ a ≤ (k : Int) ∧ wrd 2 w0 = true ∧ ms.length ≤ k ∧ es.length ≤ k ∧ (∀ p ∈ ms, rMove p) ∧ (∀ p ∈ es, rEnd p)
def S_reader : ZSp := fun ds n Q => ∃ a b c : Int, ds = [.int a, .int b, .int c] ∧ 1 ≤ a ∧ a ≤ 10 ∧ 1 ≤ b ∧ b ≤ 10 ∧ 1 ≤ c ∧ c ≤ 1000 ∧ n < 1099500000000 ∧ ∀ d n', IsR 100 d → n' ≤ n + 1000000 → Q d n'
@[simp] theorem S_reader_at (a b c : Int) (n : Nat) (Q : PyData → Nat → Prop) : S_reader [.int a, .int b, .int c] n Q ↔ (1 ≤ a ∧ a ≤ 10 ∧ 1 ≤ b ∧ b ≤ 10 ∧ 1 ≤ c ∧ c ≤ 1000 ∧ n < 1099500000000 ∧ ∀ d n', IsR 100 d → n' ≤ n + 1000000 → Q d n') := ⟨fun ⟨_, _, _, h, q⟩ => by cases h; exact q, fun q => ⟨_, _, _, rfl, q⟩⟩
theorem okKey_T {es : List (PyData × PyData)} {i j : Int} (h : ∀ p ∈ es, rMove p) : okKey es (.tuple [.int i, .int j]) = true := by
  unfold okKey
  rw [Bool.or_eq_true]
  refine .inr ?_
  rw [Bool.and_eq_true]
  refine ⟨rfl, ?_⟩
  rw [List.all_eq_true]
  intro p hp
  obtain ⟨_, _, _, _, rfl, _⟩ := h p hp
  rfl
theorem okKey_A {es : List (PyData × PyData)} {i : Int} (h : ∀ p ∈ es, rEnd p) : okKey es (.int i) = true := by
  unfold okKey
  rw [Bool.or_eq_true]
  refine .inl ?_
  rw [Bool.and_eq_true]
  refine ⟨rfl, ?_⟩
  rw [List.all_eq_true]
  intro p hp
  obtain ⟨_, _, rfl, _⟩ := h p hp
  rfl
theorem d__law_reader (bi : ∀ x ∈ BI, mg x = none) (D : DefT K mg "_law_reader" s__law_reader ps__law_reader) (D__law_draw : DefZ P w K mg base 1 "_law_draw" 1 S_draw) (D__law_said : DefZ P w K mg base 3 "_law_said" 2 S_said) :
    DefZ P w K mg base 4 "_law_reader" 3 S_reader := by
  refine D.z N__law_reader sc__law_reader rfl fun f z cdv A outer s H E hr => ⟨_, _, jss_cons (js_par2 4 5 sc__law_reader.nd rfl rfl ju_dict0 ju_dict0)
      (jss_cons (js_for PassesOwn.never (ji_range1 (by rfl) (bi _ (by decide)) (je_var 1)) (jg_name 6 sc__law_reader.nd rfl (by first | exact Or.inl rfl | exact Or.inr rfl)) (jss_one (js_for PassesOwn.never (ji_range1 (by rfl) (bi _ (by decide)) (je_var 2)) (jg_name 7 sc__law_reader.nd rfl (by first | exact Or.inl rfl | exact Or.inr rfl)) (jss_one (js_if (jc_t c_gt (je_z 0 D__law_draw hr (ja_cons je_int ja_nil)) je_int) (jss_one (js_putD 4 hr (je_tup (ja_cons (je_z 0 D__law_said hr (ja_cons (je_var 3) (ja_cons je_int ja_nil))) (ja_cons (je_z 0 D__law_draw hr (ja_cons (je_var 1) ja_nil)) ja_nil))) (je_tup (ja_cons (je_var 6) (ja_cons (je_var 7) ja_nil))))) (jss_nil))))))
      (jss_cons (js_for PassesOwn.never (ji_range1 (by rfl) (bi _ (by decide)) (je_var 1)) (jg_name 6 sc__law_reader.nd rfl (by first | exact Or.inl rfl | exact Or.inr rfl)) (jss_one (js_if (jc_t c_gt (je_z 0 D__law_draw hr (ja_cons je_int ja_nil)) je_int) (jss_one (js_putD 5 hr (je_z 0 D__law_said hr (ja_cons (je_var 3) (ja_cons je_int ja_nil))) (je_var 6))) (jss_nil))))
      (jss_frzD 4 (jss_frzD 5 (jss_one (js_ret (je_tup (ja_cons (je_var 1) (ja_cons (je_var 2) (ja_cons (je_var 3) (ja_cons (je_z 0 D__law_said hr (ja_cons (je_var 3) (ja_cons je_int ja_nil))) (ja_cons (je_var 4) (ja_cons (je_var 5) ja_nil))))))))))))), fun ds n Q hl h => ?_⟩
  obtain ⟨a, b, c, rfl, a1, a2, b1, b2, c1, c2, hn, q⟩ := h
  simp [startZ, wFor_def]
  refine ⟨by omega, by omega, ?_⟩
  refine ⟨fun k en' => ∃ ms v6 v7 n', en' = ⟨[S.stm, S.val (PyData.int a), S.val (PyData.int b), S.val (PyData.int c), S.ownD ms, S.ownD [], v6, v7], n'⟩ ∧ ms.length ≤ k * 10 ∧ (∀ p ∈ ms, rMove p) ∧ k ≤ a.toNat ∧ n' ≤ n + k * 20000, ⟨[], _, _, _, rfl, by simp, by simp, by omega, by omega⟩, ?_, ?_⟩
  · rintro k d en' hk ⟨ms, v6, v7, n', rfl, h1, h2, h3, h4⟩
    have hk1 := (List.getElem?_eq_some_iff.mp hk).1
    simp at hk1
    obtain ⟨rfl, _⟩ := rgD_get hk
    simp [wFor_def, -Prod.forall]
    refine ⟨by omega, by omega, ?_⟩
    refine ⟨fun j en' => ∃ ms v7 n', en' = ⟨[S.stm, S.val (PyData.int a), S.val (PyData.int b), S.val (PyData.int c), S.ownD ms, S.ownD [], S.val (.int k), v7], n'⟩ ∧ ms.length ≤ k * 10 + j ∧ (∀ p ∈ ms, rMove p) ∧ j ≤ b.toNat ∧ n' ≤ n + k * 20000 + j * 2000, ⟨ms, _, _, rfl, by omega, h2, by omega, by omega⟩, ?_, ?_⟩
    · rintro j d en' hj ⟨ms, v7, n', rfl, g1, g2, g3, g4⟩
      have hj1 := (List.getElem?_eq_some_iff.mp hj).1
      simp at hj1
      obtain ⟨rfl, _⟩ := rgD_get hj
      simp [a1, c1, -Prod.forall]
      refine ⟨by omega, fun x x0 x1 => ?_⟩
      by_cases hx : 0 < x
      · rw [if_pos hx]
        refine ⟨by omega, by omega, fun wd n3 w1 w2 => ⟨by omega, by omega, fun y y0 y1 => ⟨okKey_T g2, by omega, _, _, _, ⟨⟨rfl, rfl⟩, rfl⟩, ?_, fun p hp => ?_, by omega, by omega⟩⟩⟩
        · have := putE_len ms (.tuple [.int k, .int j]) (.tuple [wd, .int y])
          omega
        · rcases putE_mem hp with rfl | hp
          · exact ⟨_, _, _, _, rfl, w1⟩
          · exact g2 p hp
      · rw [if_neg hx]
        exact ⟨_, _, _, ⟨⟨rfl, rfl⟩, rfl⟩, by omega, g2, by omega, by omega⟩
    · rintro en' ⟨ms, v7, n', rfl, g1, g2, g3, g4⟩
      simp [-Prod.forall] at g1 g4 ⊢
      exact ⟨_, _, _, _, ⟨⟨rfl, rfl, rfl⟩, rfl⟩, by omega, g2, by omega, by omega⟩
  · rintro en' ⟨ms, v6, v7, n', rfl, h1, h2, h3, h4⟩
    simp at h1 h4
    simp [-Prod.forall]
    refine ⟨by omega, by omega, ?_⟩
    refine ⟨fun j en' => ∃ es v6 n', en' = ⟨[S.stm, S.val (PyData.int a), S.val (PyData.int b), S.val (PyData.int c), S.ownD ms, S.ownD es, v6, v7], n'⟩ ∧ es.length ≤ j ∧ (∀ p ∈ es, rEnd p) ∧ j ≤ a.toNat ∧ n' ≤ n + a.toNat * 20000 + j * 2000, ⟨[], _, _, rfl, by simp, by simp, by omega, by omega⟩, ?_, ?_⟩
    · rintro j d en' hj ⟨es, v7, n', rfl, g1, g2, g3, g4⟩
      have hj1 := (List.getElem?_eq_some_iff.mp hj).1
      simp at hj1
      obtain ⟨rfl, _⟩ := rgD_get hj
      simp [a1, c1, -Prod.forall]
      refine ⟨by omega, fun x x0 x1 => ?_⟩
      by_cases hx : 0 < x
      · rw [if_pos hx]
        refine ⟨by omega, by omega, fun wd n3 w1 w2 => ⟨okKey_A g2, by omega, _, _, _, ⟨⟨rfl, rfl⟩, rfl⟩, ?_, fun p hp => ?_, by omega, by omega⟩⟩
        · have := putE_len es (.int j) wd
          omega
        · rcases putE_mem hp with rfl | hp
          · exact ⟨_, _, rfl, w1⟩
          · exact g2 p hp
      · rw [if_neg hx]
        exact ⟨_, _, _, ⟨⟨rfl, rfl⟩, rfl⟩, by omega, g2, by omega, by omega⟩
    · rintro en' ⟨es, v7, n', rfl, g1, g2, g3, g4⟩
      simp at g1 g4
      simp [c1]
      refine ⟨by omega, by omega, fun wd n3 w1 w2 => q _ _ ⟨a, b, c, wd, ms, es, rfl, a1, by omega, w1, by omega, by omega, h2, g2⟩ (by omega)⟩
theorem wrd_rev {l : Nat} {xs : List PyData} (h : wrd l (.list xs) = true) : wrd l (.list xs.reverse) = true := by
  rw [wrd_list] at h ⊢
  simpa using h
theorem sort_keysT {ms : List (PyData × PyData)} (h : ∀ p ∈ ms, rMove p) : OkSort (ms.map (·.1)) := by
  have sh : ∀ d ∈ ms.map (·.1), ∃ i j : Int, d = .tuple [.int i, .int j] := fun d hd => by
    obtain ⟨p, hp, rfl⟩ := List.mem_map.mp hd
    obtain ⟨i, j, w, s, rfl, _⟩ := h p hp
    exact ⟨i, j, rfl⟩
  refine ⟨flatDs_plain fun d hd => ?_, fun d hd e he => ?_, .inl fun d hd => ?_, fun d hd => ?_⟩
  · obtain ⟨i, j, rfl⟩ := sh d hd; rfl
  · obtain ⟨i, j, rfl⟩ := sh d hd
    obtain ⟨i', j', rfl⟩ := sh e he
    simp [alike, PySem.W.alikeAll]
  · obtain ⟨i, j, rfl⟩ := sh d hd; exact ⟨_, _, rfl⟩
  · obtain ⟨i, j, rfl⟩ := sh d hd; simp [PyData.depth, PyData.depthAll]
theorem sort_keysA {es : List (PyData × PyData)} (h : ∀ p ∈ es, rEnd p) : OkSort (es.map (·.1)) := by
  have sh : ∀ d ∈ es.map (·.1), ∃ i : Int, d = .int i := fun d hd => by
    obtain ⟨p, hp, rfl⟩ := List.mem_map.mp hd
    obtain ⟨i, w, rfl, _⟩ := h p hp
    exact ⟨i, rfl⟩
  refine ⟨flatDs_plain fun d hd => ?_, fun d hd e he => ?_, .inr fun d hd => ?_, fun d hd => ?_⟩
  · obtain ⟨i, rfl⟩ := sh d hd; rfl
  · obtain ⟨i, rfl⟩ := sh d hd
    obtain ⟨i', rfl⟩ := sh e he
    simp [alike]
  · obtain ⟨i, rfl⟩ := sh d hd; exact ⟨by simp, by simp⟩
  · obtain ⟨i, rfl⟩ := sh d hd; simp [PyData.depth]
def S_as_machine : PSp := fun ds Q => ∃ d k, ds = [d] ∧ IsR k d ∧ 1 ≤ k ∧ k ≤ 100000 ∧ ∀ m, IsM 2 k m → Q m
def S_mirrored : PSp := fun ds Q => ∃ d l k, ds = [d] ∧ IsM l k d ∧ l ≤ 100000 ∧ k ≤ 100000 ∧ ∀ m, IsM l k m → Q m
def S_split : ZSp := fun ds n Q => ∃ d l k, ds = [d] ∧ IsM l k d ∧ l ≤ 100000 ∧ k ≤ 1000 ∧ n < 1099500000000 ∧ ∀ m n', IsM l (5 * k + 1) m → n' ≤ n + 10000 → Q m n'
end
end MC
namespace MC
open PySem PySem.Spec PyProof.Rows L2 DD
open Evl (Ex)
open PySem.W (alike dataLt dataLe AllAlike Sortable EachIs)
section
variable {P : Program} {w : World} {K : PySem.W.Frag} {mg : Str → Option Value} {base : Heap}
/-- a reader of the law's own, right -/
def rMoveV (A B m : Int) (p : PyData × PyData) : Prop := ∃ (i j : Int) (w : PyData) (s : Int), p = (.tuple [.int i, .int j], .tuple [w, .int s]) ∧ (0 ≤ i ∧ i < A) ∧ (0 ≤ j ∧ j < B) ∧ (0 ≤ s ∧ s < A) ∧ Wb 2 m w
def rEndV (A m : Int) (p : PyData × PyData) : Prop := ∃ (i : Int) (w : PyData), p = (.int i, w) ∧ (0 ≤ i ∧ i < A) ∧ Wb 2 m w
theorem rMoveV.r {A B m : Int} {p : PyData × PyData} (h : rMoveV A B m p) : rMove p := by
  obtain ⟨i, j, w, s, rfl, _, _, _, hw⟩ := h
  exact ⟨i, j, w, s, rfl, Wb.wrd hw⟩
theorem rEndV.r {A m : Int} {p : PyData × PyData} (h : rEndV A m p) : rEnd p := by
  obtain ⟨i, w, rfl, _, hw⟩ := h
  exact ⟨i, w, rfl, Wb.wrd hw⟩
structure IsRV (k : Nat) (B C : Int) (d : PyData) : Prop where
  ex : ∃ (a b c : Int) (w0 : PyData) (ms es : List (PyData × PyData)), d = .tuple [.int a, .int b, .int c, w0, .dict ms, .dict es] ∧ 1 ≤ a ∧ a ≤ (k : Int) ∧ 1 ≤ b ∧ b ≤ B ∧ 1 ≤ c ∧ c ≤ C ∧ Wb 2 c w0 ∧ ms.length ≤ k ∧ es.length ≤ k ∧ (∀ p ∈ ms, rMoveV a b c p) ∧ (∀ p ∈ es, rEndV a c p) ∧ (ms.map (·.1)).Nodup ∧ (es.map (·.1)).Nodup
theorem IsRV.mono {k k' : Nat} {B C B' C' : Int} {d : PyData} (h : IsRV k B C d) (hk : k ≤ k') (hB : B ≤ B') (hC : C ≤ C') : IsRV k' B' C' d := by
  obtain ⟨a, b, c, w0, ms, es, rfl, a1, a2, b1, b2, c1, c2, hw, hm, he, r⟩ := h.ex
  exact ⟨a, b, c, w0, ms, es, rfl, a1, by omega, b1, by omega, c1, by omega, hw, by omega, by omega, r⟩
def V_reader : ZSp := fun ds n Q => ∃ a b c : Int, ds = [.int a, .int b, .int c] ∧ 1 ≤ a ∧ a ≤ 10 ∧ 1 ≤ b ∧ b ≤ 10 ∧ 1 ≤ c ∧ c ≤ 1000 ∧ n < 1099500000000 ∧ ∀ d n', IsRV 100 b c d → n' ≤ n + 1000000 → Q d n'
@[simp] theorem V_reader_at (a b c : Int) (n : Nat) (Q : PyData → Nat → Prop) : V_reader [.int a, .int b, .int c] n Q ↔ (1 ≤ a ∧ a ≤ 10 ∧ 1 ≤ b ∧ b ≤ 10 ∧ 1 ≤ c ∧ c ≤ 1000 ∧ n < 1099500000000 ∧ ∀ d n', IsRV 100 b c d → n' ≤ n + 1000000 → Q d n') := ⟨fun ⟨_, _, _, h, q⟩ => by cases h; exact q, fun q => ⟨_, _, _, rfl, q⟩⟩
theorem v__law_reader (bi : ∀ x ∈ BI, mg x = none) (D : DefT K mg "_law_reader" s__law_reader ps__law_reader) (D__law_draw : DefZ P w K mg base 1 "_law_draw" 1 S_draw) (D__law_said : DefZ P w K mg base 3 "_law_said" 2 V_said) :
    DefZ P w K mg base 4 "_law_reader" 3 V_reader := by
  refine D.z N__law_reader sc__law_reader rfl fun f z cdv A outer s H E hr => ⟨_, _, jss_cons (js_par2 4 5 sc__law_reader.nd rfl rfl ju_dict0 ju_dict0)
      (jss_cons (js_for PassesOwn.never (ji_range1 (by rfl) (bi _ (by decide)) (je_var 1)) (jg_name 6 sc__law_reader.nd rfl (by first | exact Or.inl rfl | exact Or.inr rfl)) (jss_one (js_for PassesOwn.never (ji_range1 (by rfl) (bi _ (by decide)) (je_var 2)) (jg_name 7 sc__law_reader.nd rfl (by first | exact Or.inl rfl | exact Or.inr rfl)) (jss_one (js_if (jc_t c_gt (je_z 0 D__law_draw hr (ja_cons je_int ja_nil)) je_int) (jss_one (js_putD 4 hr (je_tup (ja_cons (je_z 0 D__law_said hr (ja_cons (je_var 3) (ja_cons je_int ja_nil))) (ja_cons (je_z 0 D__law_draw hr (ja_cons (je_var 1) ja_nil)) ja_nil))) (je_tup (ja_cons (je_var 6) (ja_cons (je_var 7) ja_nil))))) (jss_nil))))))
      (jss_cons (js_for PassesOwn.never (ji_range1 (by rfl) (bi _ (by decide)) (je_var 1)) (jg_name 6 sc__law_reader.nd rfl (by first | exact Or.inl rfl | exact Or.inr rfl)) (jss_one (js_if (jc_t c_gt (je_z 0 D__law_draw hr (ja_cons je_int ja_nil)) je_int) (jss_one (js_putD 5 hr (je_z 0 D__law_said hr (ja_cons (je_var 3) (ja_cons je_int ja_nil))) (je_var 6))) (jss_nil))))
      (jss_frzD 4 (jss_frzD 5 (jss_one (js_ret (je_tup (ja_cons (je_var 1) (ja_cons (je_var 2) (ja_cons (je_var 3) (ja_cons (je_z 0 D__law_said hr (ja_cons (je_var 3) (ja_cons je_int ja_nil))) (ja_cons (je_var 4) (ja_cons (je_var 5) ja_nil))))))))))))), fun ds n Q hl h => ?_⟩
  obtain ⟨a, b, c, rfl, a1, a2, b1, b2, c1, c2, hn, q⟩ := h
  simp [startZ, wFor_def]
  refine ⟨by omega, by omega, ?_⟩
  refine ⟨fun k en' => ∃ ms v6 v7 n', en' = ⟨[S.stm, S.val (PyData.int a), S.val (PyData.int b), S.val (PyData.int c), S.ownD ms, S.ownD [], v6, v7], n'⟩ ∧ ms.length ≤ k * 10 ∧ (∀ p ∈ ms, rMoveV a b c p) ∧ (ms.map (·.1)).Nodup ∧ k ≤ a.toNat ∧ n' ≤ n + k * 20000, ⟨[], _, _, _, rfl, by simp, by simp, by simp, by omega, by omega⟩, ?_, ?_⟩
  · rintro k d en' hk ⟨ms, v6, v7, n', rfl, h1, h2, hN, h3, h4⟩
    have hk1 := (List.getElem?_eq_some_iff.mp hk).1
    simp at hk1
    obtain ⟨rfl, _⟩ := rgD_get hk
    simp [wFor_def, -Prod.forall]
    refine ⟨by omega, by omega, ?_⟩
    refine ⟨fun j en' => ∃ ms v7 n', en' = ⟨[S.stm, S.val (PyData.int a), S.val (PyData.int b), S.val (PyData.int c), S.ownD ms, S.ownD [], S.val (.int k), v7], n'⟩ ∧ ms.length ≤ k * 10 + j ∧ (∀ p ∈ ms, rMoveV a b c p) ∧ (ms.map (·.1)).Nodup ∧ j ≤ b.toNat ∧ n' ≤ n + k * 20000 + j * 2000, ⟨ms, _, _, rfl, by omega, h2, hN, by omega, by omega⟩, ?_, ?_⟩
    · rintro j d en' hj ⟨ms, v7, n', rfl, g1, g2, gN, g3, g4⟩
      have hj1 := (List.getElem?_eq_some_iff.mp hj).1
      simp at hj1
      obtain ⟨rfl, _⟩ := rgD_get hj
      simp [a1, c1, -Prod.forall]
      refine ⟨by omega, fun x x0 x1 => ?_⟩
      by_cases hx : 0 < x
      · rw [if_pos hx]
        refine ⟨by omega, by omega, fun wd n3 w1 w2 => ⟨by omega, by omega, fun y y0 y1 => ⟨okKey_T fun p hp => (g2 p hp).r, by omega, _, _, _, ⟨⟨rfl, rfl⟩, rfl⟩, ?_, fun p hp => ?_, putE_keys _ _ _ gN, by omega, by omega⟩⟩⟩
        · have := putE_len ms (.tuple [.int k, .int j]) (.tuple [wd, .int y])
          omega
        · rcases putE_mem hp with rfl | hp
          · exact ⟨_, _, _, _, rfl, ⟨by omega, by omega⟩, ⟨by omega, by omega⟩, ⟨y0, y1⟩, w1⟩
          · exact g2 p hp
      · rw [if_neg hx]
        exact ⟨_, _, _, ⟨⟨rfl, rfl⟩, rfl⟩, by omega, g2, gN, by omega, by omega⟩
    · rintro en' ⟨ms, v7, n', rfl, g1, g2, gN, g3, g4⟩
      simp [-Prod.forall] at g1 g4 ⊢
      exact ⟨_, _, _, _, ⟨⟨rfl, rfl, rfl⟩, rfl⟩, by omega, g2, gN, by omega, by omega⟩
  · rintro en' ⟨ms, v6, v7, n', rfl, h1, h2, hN, h3, h4⟩
    simp at h1 h4
    simp [-Prod.forall]
    refine ⟨by omega, by omega, ?_⟩
    refine ⟨fun j en' => ∃ es v6 n', en' = ⟨[S.stm, S.val (PyData.int a), S.val (PyData.int b), S.val (PyData.int c), S.ownD ms, S.ownD es, v6, v7], n'⟩ ∧ es.length ≤ j ∧ (∀ p ∈ es, rEndV a c p) ∧ (es.map (·.1)).Nodup ∧ j ≤ a.toNat ∧ n' ≤ n + a.toNat * 20000 + j * 2000, ⟨[], _, _, rfl, by simp, by simp, by simp, by omega, by omega⟩, ?_, ?_⟩
    · rintro j d en' hj ⟨es, v7, n', rfl, g1, g2, gN, g3, g4⟩
      have hj1 := (List.getElem?_eq_some_iff.mp hj).1
      simp at hj1
      obtain ⟨rfl, _⟩ := rgD_get hj
      simp [a1, c1, -Prod.forall]
      refine ⟨by omega, fun x x0 x1 => ?_⟩
      by_cases hx : 0 < x
      · rw [if_pos hx]
        refine ⟨by omega, by omega, fun wd n3 w1 w2 => ⟨okKey_A fun p hp => (g2 p hp).r, by omega, _, _, _, ⟨⟨rfl, rfl⟩, rfl⟩, ?_, fun p hp => ?_, putE_keys _ _ _ gN, by omega, by omega⟩⟩
        · have := putE_len es (.int j) wd
          omega
        · rcases putE_mem hp with rfl | hp
          · exact ⟨_, _, rfl, ⟨by omega, by omega⟩, w1⟩
          · exact g2 p hp
      · rw [if_neg hx]
        exact ⟨_, _, _, ⟨⟨rfl, rfl⟩, rfl⟩, by omega, g2, gN, by omega, by omega⟩
    · rintro en' ⟨es, v7, n', rfl, g1, g2, gN, g3, g4⟩
      simp at g1 g4
      simp [c1]
      refine ⟨by omega, by omega, fun wd n3 w1 w2 => q _ _ ⟨a, b, c, wd, ms, es, rfl, a1, by omega, b1, by omega, c1, by omega, w1, by omega, by omega, h2, g2, hN, gN⟩ (by omega)⟩
theorem asc_keysT {A B m : Int} {ms : List (PyData × PyData)} (h : ∀ p ∈ ms, rMoveV A B m p) (hn : (ms.map (·.1)).Nodup) : Asc ((ms.map (·.1)).mergeSort (dataLe false id)) := by
  have sh : ∀ d ∈ ms.map (·.1), ∃ i j : Int, d = .tuple [.int i, .int j] := fun d hd => by
    obtain ⟨p, hp, rfl⟩ := List.mem_map.mp hd
    obtain ⟨i, j, w, s, rfl, _⟩ := h p hp
    exact ⟨i, j, rfl⟩
  refine asc_sorted hn (fun d hd e he => ?_) fun d hd e he q => ?_
  · obtain ⟨i, j, rfl⟩ := sh d hd
    obtain ⟨i', j', rfl⟩ := sh e he
    simp [alike, PySem.W.alikeAll]
  · obtain ⟨i, j, rfl⟩ := sh d hd
    obtain ⟨i', j', rfl⟩ := sh e he
    simpa [PyData.eqv, PyData.eqvAll] using q
theorem asc_keysA {A m : Int} {es : List (PyData × PyData)} (h : ∀ p ∈ es, rEndV A m p) (hn : (es.map (·.1)).Nodup) : Asc ((es.map (·.1)).mergeSort (dataLe false id)) := by
  have sh : ∀ d ∈ es.map (·.1), ∃ i : Int, d = .int i := fun d hd => by
    obtain ⟨p, hp, rfl⟩ := List.mem_map.mp hd
    obtain ⟨i, w, rfl, _⟩ := h p hp
    exact ⟨i, rfl⟩
  refine asc_sorted hn (fun d hd e he => ?_) fun d hd e he q => ?_
  · obtain ⟨i, rfl⟩ := sh d hd
    obtain ⟨i', rfl⟩ := sh e he
    simp [alike]
  · obtain ⟨i, rfl⟩ := sh d hd
    obtain ⟨i', rfl⟩ := sh e he
    simpa [PyData.eqv] using q
def V_as_machine : PSp := fun ds Q => ∃ d k B C, ds = [d] ∧ IsRV k B C d ∧ 1 ≤ k ∧ k ≤ 100000 ∧ ∀ m, IsV 2 k B C m → Q m
def V_mirrored : PSp := fun ds Q => ∃ d l k B C, ds = [d] ∧ IsV l k B C d ∧ l ≤ 100000 ∧ k ≤ 100000 ∧ ∀ m, IsV l k B C m → Q m
def V_split : ZSp := fun ds n Q => ∃ d l k B C, ds = [d] ∧ IsV l k B C d ∧ l ≤ 100000 ∧ k ≤ 1000 ∧ n < 1099500000000 ∧ ∀ m n', IsV l (5 * k + 1) B C m → n' ≤ n + 10000 → Q m n'
end
end MC
namespace MC
open PySem PySem.Spec PyProof.Rows L2 DD
open Evl (Ex)
abbrev s_check_sizes : Stmt := top 39
abbrev N_check_sizes : List Str := ["letters", "signs"]
abbrev ps_check_sizes : List Str := ["letters", "signs"]
theorem sc_check_sizes : FnScope N_check_sizes ps_check_sizes (defScope s_check_sizes) := ⟨rfl, rfl, rfl, by decide +kernel, rfl, by decide +kernel, by decide +kernel⟩
abbrev s_kept_moves : Stmt := top 24
abbrev N_kept_moves : List Str := ["thing", "stands", "letters", "signs", "found", "key", "pair"]
abbrev ps_kept_moves : List Str := ["thing", "stands", "letters", "signs"]
theorem sc_kept_moves : FnScope N_kept_moves ps_kept_moves (defScope s_kept_moves) := ⟨rfl, rfl, rfl, by decide +kernel, rfl, by decide +kernel, by decide +kernel⟩
abbrev s_kept_ends : Stmt := top 25
abbrev N_kept_ends : List Str := ["thing", "stands", "signs", "found", "key"]
abbrev ps_kept_ends : List Str := ["thing", "stands", "signs"]
theorem sc_kept_ends : FnScope N_kept_ends ps_kept_ends (defScope s_kept_ends) := ⟨rfl, rfl, rfl, by decide +kernel, rfl, by decide +kernel, by decide +kernel⟩
abbrev s_kept_reader : Stmt := top 26
abbrev N_kept_reader : List Str := ["thing", "stands", "letters", "signs", "first", "moves", "ends", "one"]
abbrev ps_kept_reader : List Str := ["thing"]
theorem sc_kept_reader : FnScope N_kept_reader ps_kept_reader (defScope s_kept_reader) := ⟨rfl, rfl, rfl, by decide +kernel, rfl, by decide +kernel, by decide +kernel⟩
abbrev s_need_reader : Stmt := top 27
abbrev N_need_reader : List Str := ["thing", "kept"]
abbrev ps_need_reader : List Str := ["thing"]
theorem sc_need_reader : FnScope N_need_reader ps_need_reader (defScope s_need_reader) := ⟨rfl, rfl, rfl, by decide +kernel, rfl, by decide +kernel, by decide +kernel⟩
abbrev s_kept_sample : Stmt := top 41
abbrev N_kept_sample : List Str := ["letters", "signs", "thing", "found", "pair", "word", "told", "one"]
abbrev ps_kept_sample : List Str := ["letters", "signs", "thing"]
theorem sc_kept_sample : FnScope N_kept_sample ps_kept_sample (defScope s_kept_sample) := ⟨rfl, rfl, rfl, by decide +kernel, rfl, by decide +kernel, by decide +kernel⟩
abbrev s_need_sample : Stmt := top 42
abbrev N_need_sample : List Str := ["letters", "signs", "sample", "found"]
abbrev ps_need_sample : List Str := ["letters", "signs", "sample"]
theorem sc_need_sample : FnScope N_need_sample ps_need_sample (defScope s_need_sample) := ⟨rfl, rfl, rfl, by decide +kernel, rfl, by decide +kernel, by decide +kernel⟩
abbrev s_need_all : Stmt := top 47
abbrev N_need_all : List Str := ["letters", "signs", "stands", "most", "sample"]
abbrev ps_need_all : List Str := ["letters", "signs", "stands", "most", "sample"]
theorem sc_need_all : FnScope N_need_all ps_need_all (defScope s_need_all) := ⟨rfl, rfl, rfl, by decide +kernel, rfl, by decide +kernel, by decide +kernel⟩
abbrev s_is_sample : Stmt := top 48
abbrev N_is_sample : List Str := ["letters", "signs", "thing"]
abbrev ps_is_sample : List Str := ["letters", "signs", "thing"]
theorem sc_is_sample : FnScope N_is_sample ps_is_sample (defScope s_is_sample) := ⟨rfl, rfl, rfl, by decide +kernel, rfl, by decide +kernel, by decide +kernel⟩
abbrev s_fits : Stmt := top 49
abbrev N_fits : List Str := ["reader", "sample", "kept"]
abbrev ps_fits : List Str := ["reader", "sample"]
theorem sc_fits : FnScope N_fits ps_fits (defScope s_fits) := ⟨rfl, rfl, rfl, by decide +kernel, rfl, by decide +kernel, by decide +kernel⟩
abbrev s_tree_reader : Stmt := top 50
abbrev N_tree_reader : List Str := ["letters", "signs", "sample"]
abbrev ps_tree_reader : List Str := ["letters", "signs", "sample"]
theorem sc_tree_reader : FnScope N_tree_reader ps_tree_reader (defScope s_tree_reader) := ⟨rfl, rfl, rfl, by decide +kernel, rfl, by decide +kernel, by decide +kernel⟩
abbrev s_all_fitting : Stmt := top 51
abbrev N_all_fitting : List Str := ["letters", "signs", "stands", "most", "sample", "found", "reader"]
abbrev ps_all_fitting : List Str := ["letters", "signs", "stands", "most", "sample"]
theorem sc_all_fitting : FnScope N_all_fitting ps_all_fitting (defScope s_all_fitting) := ⟨rfl, rfl, rfl, by decide +kernel, rfl, by decide +kernel, by decide +kernel⟩
abbrev s_agreed : Stmt := top 52
abbrev N_agreed : List Str := ["letters", "signs", "stands", "most", "sample", "word", "kept", "row", "told", "reader", "some", "one"]
abbrev ps_agreed : List Str := ["letters", "signs", "stands", "most", "sample", "word"]
theorem sc_agreed : FnScope N_agreed ps_agreed (defScope s_agreed) := ⟨rfl, rfl, rfl, by decide +kernel, rfl, by decide +kernel, by decide +kernel⟩
/-! ### readers, as they are kept -/
def keptR (A C : Int) (v : PyData) : PyData := match seqD v with
  | some [w, s] => if below A s && !noneD (keptW (.int C) w) then .tuple [s, keptW (.int C) w] else .none
  | _ => .none
def mvOk (A B C : Int) (p : PyData × PyData) : Bool := match p.1 with
  | .tuple [x, y] => below A x && below B y && !noneD (keptR A C p.2)
  | _ => false
def swapD : PyData → PyData
  | .tuple [a, b] => .tuple [b, a]
  | d => d
noncomputable def mvAcc (A C : Int) (es : List (PyData × PyData)) : List (PyData × PyData) := es.foldl (fun acc p => putE acc p.1 (swapD (keptR A C p.2))) []
noncomputable def kMv (A B C : Int) : PyData → PyData
  | .dict es => if es.all (mvOk A B C) then .dict (mvAcc A C es) else .none
  | _ => .none
noncomputable def enAcc (C : Int) (es : List (PyData × PyData)) : List (PyData × PyData) := es.foldl (fun acc p => putE acc p.1 (keptW (.int C) p.2)) []
noncomputable def kEn (A C : Int) : PyData → PyData
  | .dict es => if es.all (fun p => below A p.1) then (if (enAcc C es).any (fun p => noneD p.2) then .none else .dict (enAcc C es)) else .none
  | _ => .none
noncomputable def kRd (d : PyData) : PyData := match seqD d with
  | some [a, b, c, w, m, e] => if posI a && posI b && posI c then
      (if noneD (keptW (.int (intOf c)) w) || noneD (kMv (intOf a) (intOf b) (intOf c) m) || noneD (kEn (intOf a) (intOf c) e) then .none
       else .tuple [a, b, c, keptW (.int (intOf c)) w, kMv (intOf a) (intOf b) (intOf c) m, kEn (intOf a) (intOf c) e]) else .none
  | _ => .none
def dOk : PyData → Prop
  | .dict es => (es.map (·.1)).Nodup ∧ es.length ≤ 100000 ∧ ∀ p ∈ es, lenOk p.2 = true
  | _ => True
def rdOk (d : PyData) : Prop := lenOk d = true ∧ ∀ xs, seqD d = some xs → ∀ x ∈ xs, dOk x
theorem foldl_snoc {α β : Type} (f : β → α → β) (b : β) (xs : List α) {k : Nat} {x : α} (h : xs[k]? = some x) : (xs.take (k + 1)).foldl f b = f ((xs.take k).foldl f b) x := by
  rw [List.take_succ, h, List.foldl_append]; rfl
theorem all_snoc {α : Type} (p : α → Bool) (xs : List α) {k : Nat} {x : α} (h : xs[k]? = some x) : (xs.take (k + 1)).all p = ((xs.take k).all p && p x) := by
  rw [List.take_succ, h, List.all_append]; simp
theorem all_stop {α : Type} (p : α → Bool) (xs : List α) {k : Nat} {x : α} (h : xs[k]? = some x) (hp : p x = false) : xs.all p = false := by
  rw [List.all_eq_false]
  exact ⟨x, List.mem_of_getElem? h, by rw [hp]; exact Bool.false_ne_true⟩
theorem lookE_at : ∀ {es : List (PyData × PyData)} {i : Nat} {p : PyData × PyData}, (es.map (·.1)).Nodup → es[i]? = some p → lookE es p.1 = some p.2
  | [], _, _, _, h => by simp at h
  | q :: r, 0, p, _, h => by simp at h; subst h; exact lookE_pos rfl
  | q :: r, i + 1, p, nd, h => by
    rw [List.map_cons, List.nodup_cons] at nd
    have h' : r[i]? = some p := by simpa using h
    rw [lookE_neg (fun e => nd.1 (e ▸ List.mem_map.mpr ⟨p, List.mem_of_getElem? h', rfl⟩))]
    exact lookE_at nd.2 h'
theorem lenOk_of {d : PyData} {xs : List PyData} (e : seqD d = some xs) (h1 : xs.length ≤ 100000) (h2 : lenOks xs = true) : lenOk d = true := by
  cases d <;> simp [seqD] at e <;> subst e <;> simp [lenOk, h1, h2]
theorem below_num {m : Int} {d : PyData} (h : below m d = true) : ∃ i, d = .int i ∧ 0 ≤ i ∧ i < m := by
  cases d <;> simp [below] at h
  exact ⟨_, rfl, h⟩
/-! ### what is refused -/
def X_sizes (C1 C2 : Addr) : XSp := fun vs ds R RX => ∃ v1 v2 d1 d2, vs = [v1, v2] ∧ ds = [d1, d2] ∧ (posI d1 = false → RX (.ref C1) "letters" v1 d1) ∧ (posI d1 = true → posI d2 = false → RX (.ref C2) "signs" v2 d2) ∧ (posI d1 = true → posI d2 = true → R .none)
section
variable {P : Program} {w : World} {K : PySem.W.Frag} {mg : Str → Option Value} {base : Heap} {CL CS CR CP CT CM CW : Addr}
theorem x_check_sizes (bi : ∀ x ∈ BI, mg x = none) (D : DefT K mg "check_sizes" s_check_sizes ps_check_sizes) (D_is_whole : DefP P w K mg base 1 "is_whole" 1 (sF1 fun d => .bool (whole d))) (E_BadLetters : ErrC P w K mg base "BadLetters" "letters" CL) (E_BadSigns : ErrC P w K mg base "BadSigns" "signs" CS) :
    DefXS P w K mg base 3 "check_sizes" s_check_sizes ps_check_sizes (X_sizes CL CS) := by
  refine D.px N_check_sizes sc_check_sizes fun f cdv A outer s H E hr tk vs ds R RX hl1 hl2 h => ?_
  obtain ⟨v1, v2, d1, d2, rfl, rfl, h1, h2, h3⟩ := h
  refine ⟨_, _, jss_cons (js_if ((jw_or (jt_not (jt_b (je_f D_is_whole hr (ja_cons (je_var 0) ja_nil)))) (jw_or1 (jc_t c_lt (je_var 0) je_int))).jt) (jss_one (js_raise 0 E_BadLetters hr tk)) (jss_nil))
      (jss_one (js_if ((jw_or (jt_not (jt_b (je_f D_is_whole hr (ja_cons (je_var 1) ja_nil)))) (jw_or1 (jc_t c_lt (je_var 1) je_int))).jt) (jss_one (js_raise 1 E_BadSigns hr tk)) (jss_nil))), ?_⟩
  have bad : ∀ {d : PyData}, posI d = false → (∃ i : Int, d = .int i ∧ i < 1) ∨ whole d = false := fun {d} q => by
    cases d with
    | int i => simp [posI] at q; exact .inl ⟨i, rfl, by omega⟩
    | _ => exact .inr rfl
  have good : ∀ {d : PyData}, posI d = true → ∃ i : Int, d = .int i ∧ 1 ≤ i := fun {d} q => by
    cases d <;> simp [posI] at q
    exact ⟨_, rfl, by omega⟩
  simp [startV]
  cases n1 : posI d1 with
  | false =>
    rcases bad n1 with ⟨i, rfl, hi⟩ | hw
    · simp [hi, h1 n1, show whole (.int i) = true from rfl] <;> omega
    · simp [hw, h1 n1]
  | true =>
    obtain ⟨i, rfl, hi⟩ := good n1
    have ni : ¬ i < 1 := by omega
    cases n2 : posI d2 with
    | false =>
      rcases bad n2 with ⟨j, rfl, hj⟩ | hw
      · simp [ni, hj, h2 n1 n2, show ∀ i, whole (.int i) = true from fun _ => rfl] <;> omega
      · simp [ni, hw, h2 n1 n2, show whole (.int i) = true from rfl]
    | true =>
      obtain ⟨j, rfl, hj⟩ := good n2
      have nj : ¬ j < 1 := by omega
      simp [ni, nj, h3 n1 n2, show ∀ i, whole (.int i) = true from fun _ => rfl]
def S_kept_moves : PSp := fun ds Q => ∃ (t : PyData) (A B C : Int), ds = [t, .int A, .int B, .int C] ∧ dOk t ∧ Q (kMv A B C t)
@[simp] theorem S_kept_moves_at (t : PyData) (A B C : Int) (Q : PyData → Prop) : S_kept_moves [t, .int A, .int B, .int C] Q ↔ (dOk t ∧ Q (kMv A B C t)) := ⟨fun ⟨_, _, _, _, h, q⟩ => by cases h; exact q, fun q => ⟨_, _, _, _, rfl, q⟩⟩
theorem d_kept_moves (bi : ∀ x ∈ BI, mg x = none) (D : DefT K mg "kept_moves" s_kept_moves ps_kept_moves) (D_is_below : DefP P w K mg base 3 "is_below" 2 S_is_below) (D_is_row : DefP P w K mg base 2 "is_row" 2 S_is_row) (D_kept_pair : DefP P w K mg base 5 "kept_pair" 3 S_kept_pair) :
    DefP P w K mg base 6 "kept_moves" 4 S_kept_moves := by
  refine D.p N_kept_moves sc_kept_moves fun f cdv A outer s H E hr => ⟨_, _, jss_cons (js_if (jt_not (jt_b (je_isi_dict bi (je_var 0)))) (jss_one (js_ret je_non)) (jss_nil))
      (jss_cons (js_asgO 4 sc_kept_moves.nd rfl (by first | exact Or.inl rfl | exact Or.inr rfl) ju_dict0)
      (jss_cons (js_for PassesOwn.never (ji_keys (je_var 0)) (jg_name 5 sc_kept_moves.nd rfl (by first | exact Or.inl rfl | exact Or.inr rfl)) (jss_cons (js_if ((jw_or (jt_not (jt_b (je_isi_tuple bi (je_var 5)))) (jw_or (jc_t (c_ne hr) (je_len (by rfl) (bi _ (by decide)) (je_var 5)) je_int) (jw_or1 (jt_not (jt_b (je_f D_is_below hr (ja_cons (je_ix (je_var 5) je_int) (ja_cons (je_var 1) ja_nil)))))))).jt) (jss_one (js_ret je_non)) (jss_nil))
      (jss_cons (js_asg (je_if (jt_b (je_f D_is_row hr (ja_cons (je_dget hr (je_var 0) (je_var 5)) (ja_cons je_int ja_nil)))) (je_f D_kept_pair hr (ja_cons (je_rev (je_dget hr (je_var 0) (je_var 5))) (ja_cons (je_var 1) (ja_cons (je_var 3) ja_nil)))) je_non) (jg_name 6 sc_kept_moves.nd rfl (by first | exact Or.inl rfl | exact Or.inr rfl)))
      (jss_cons (js_if ((jw_or (jt_not (jt_b (je_f D_is_below hr (ja_cons (je_ix (je_var 5) je_int) (ja_cons (je_var 2) ja_nil))))) (jw_or1 (jt_isN (je_var 6)))).jt) (jss_one (js_ret je_non)) (jss_nil))
      (jss_one (js_putD 4 hr (je_tup (ja_cons (je_ix (je_var 6) je_int) (ja_cons (je_ix (je_var 6) je_int) ja_nil))) (je_var 5)))))))
      (jss_frzD 4 (jss_one (js_ret (je_var 4)))))), fun ds Q hl h => ?_⟩
  obtain ⟨t, a, b, c, rfl, ht, q⟩ := h
  cases t with
  | dict es =>
    obtain ⟨nd, hle, hlen⟩ := ht
    simp [startE, wFor_def, -Prod.forall]
    refine ⟨fun k en' => ∃ v5 v6 n', en' = ⟨[S.val (.dict es), S.val (.int a), S.val (.int b), S.val (.int c), S.ownD (mvAcc a c (es.take k)), v5, v6], n'⟩ ∧ (es.take k).all (mvOk a b c) = true ∧ (∀ p ∈ mvAcc a c (es.take k), keyT p.1 = true) ∧ (mvAcc a c (es.take k)).length ≤ k ∧ k ≤ es.length, ⟨_, _, _, rfl, by simp, by simp [mvAcc], by simp [mvAcc], by omega⟩, ?_, ?_⟩
    · rintro k d en' hk ⟨v5, v6, n', rfl, h1, h2, h3, h4⟩
      obtain ⟨p, hp, rfl⟩ : ∃ p, es[k]? = some p ∧ p.1 = d := by
        rw [List.getElem?_map] at hk
        cases e : es[k]? with
        | none => rw [e] at hk; cases hk
        | some p => rw [e] at hk; exact ⟨p, rfl, by simpa using hk⟩
      have hv := lookE_at nd hp
      have hv' := hlen p (List.mem_of_getElem? hp)
      have hk' := (List.getElem?_eq_some_iff.mp hp).1
      have bad : mvOk a b c p = false → Q .none := fun hb => by
        have := all_stop (mvOk a b c) es hp hb
        simpa [kMv, this] using q
      obtain ⟨kk, vv⟩ := p
      have st := foldl_snoc (fun acc (p : PyData × PyData) => putE acc p.1 (swapD (keptR a c p.2))) [] es hp
      have sa := all_snoc (mvOk a b c) es hp
      simp only at hv hv'
      by_cases hkk : ∃ x y, kk = .tuple [x, y]
      · obtain ⟨x, y, rfl⟩ := hkk
        cases hx : below a x with
        | false => simpa [-Prod.forall, hv, isTup, seqD, hx] using bad (by simp [mvOk, hx])
        | true =>
          cases hrow : row vv 2 with
          | false =>
            have hn : keptR a c vv = .none := by
              unfold keptR
              unfold row at hrow
              split
              · rename_i u v e; rw [e] at hrow; simp at hrow
              · rfl
            simpa [-Prod.forall, hv, isTup, seqD, hx, hrow] using bad (by simp [mvOk, hn, noneD])
          | true =>
            obtain ⟨ws, e, hws⟩ := row_len hrow (n := 2) rfl
            obtain ⟨w0, s0, rfl⟩ := len2 hws
            have l2 := lenOks_mem (lenOk_seq hv' e).2
            have e1 : keptP a c (.list [s0, w0]) = keptR a c vv := by unfold keptP keptR; rw [e]; rfl
            have e2 : keptP a c (.tuple [s0, w0]) = keptR a c vv := by unfold keptP keptR; rw [e]; rfl
            have ll : lenOks [s0, w0] = true := by simp [lenOks, l2 w0 (by simp), l2 s0 (by simp)]
            cases hy : below b y with
            | false =>
              have := bad (by simp [mvOk, hx, hy])
              cases vv <;> simp [seqD] at e <;> subst e <;> simpa [-Prod.forall, hv, isTup, seqD, hx, hrow, hy, lenOk, ll] using this
            | true =>
              cases hn : noneD (keptR a c vv) with
              | true =>
                have := bad (by simp [mvOk, hx, hy, hn])
                cases vv <;> simp [seqD] at e <;> subst e <;> simpa [-Prod.forall, hv, isTup, seqD, hx, hrow, hy, lenOk, ll, e1, e2, hn] using this
              | false =>
                have good : mvOk a b c (.tuple [x, y], vv) = true := by simp [mvOk, hx, hy, hn]
                obtain ⟨i, rfl, _⟩ := below_num hx
                obtain ⟨j, rfl, _⟩ := below_num hy
                obtain ⟨q1, q2, e3⟩ : ∃ q1 q2, keptR a c vv = .tuple [q1, q2] := by
                  unfold keptR at hn ⊢
                  split at hn
                  · rename_i u v e'; by_cases hc : (below a v && !noneD (keptW (.int c) u)) = true
                    · rw [if_pos hc]; exact ⟨_, _, rfl⟩
                    · rw [if_neg hc] at hn; cases hn
                  · cases hn
                have st' : mvAcc a c (es.take (k + 1)) = putE (mvAcc a c (es.take k)) (.tuple [.int i, .int j]) (.tuple [q2, q1]) := by
                  simp only [mvAcc]; rw [st]; simp [swapD, e3]
                have okk : okKey (mvAcc a c (es.take k)) (.tuple [.int i, .int j]) = true := by
                  simp only [okKey, Bool.or_eq_true, Bool.and_eq_true]
                  exact .inr ⟨rfl, by rw [List.all_eq_true]; exact fun p hp => h2 p hp⟩
                have k2 : ∀ p ∈ mvAcc a c (es.take (k + 1)), keyT p.1 = true := fun p hp => by
                  rw [st'] at hp
                  rcases putE_mem hp with rfl | hp
                  · rfl
                  · exact h2 p hp
                have k3 : (mvAcc a c (es.take (k + 1))).length ≤ k + 1 := by
                  rw [st']
                  have := putE_len (mvAcc a c (es.take k)) (.tuple [.int i, .int j]) (.tuple [q2, q1])
                  omega
                have k4 : (es.take (k + 1)).all (mvOk a b c) = true := by rw [sa, h1, good]; rfl
                have hlt : (mvAcc a c (es.take k)).length < 100000 := by omega
                rw [List.all_eq_true] at k4
                rw [e3] at e1 e2
                have hn' : noneD (PyData.tuple [q1, q2]) = false := rfl
                cases vv <;> simp [seqD] at e <;> subst e <;> (simp [-Prod.forall, hv, isTup, seqD, hx, hrow, hy, lenOk, ll, e1, e2, hn', okk, hlt]; exact ⟨st'.symm, k4, k2, k3, hk'⟩)
      · have hb := bad (by
          unfold mvOk
          split
          · rename_i x y e; exact absurd ⟨x, y, e⟩ hkk
          · rfl)
        cases kk with
        | tuple ks =>
          have hne : ¬ (ks.length : Int) = 2 := fun q => by
            obtain ⟨x, y, rfl⟩ := len2 (xs := ks) (by omega)
            exact hkk ⟨x, y, rfl⟩
          simpa [-Prod.forall, hv, isTup, seqD, hne] using hb
        | _ => simpa [-Prod.forall, hv, isTup] using hb
    · rintro en' ⟨v5, v6, n', rfl, h1, h2, h3, h4⟩
      rw [List.length_map, List.take_length] at h1
      simp only [kMv, h1, if_true] at q
      simpa using q
  | _ => simpa [startE, kMv] using q
end
end MC
namespace MC
open PySem PySem.Spec PyProof.Rows L2 DD
open Evl (Ex)
theorem okW (m : PyData) (d : PyData) : okD (keptW m d) = true := by
  rcases keptW_or m d with h | ⟨ns, h⟩
  · rw [h]; rfl
  · rw [h]
    have := plain_wrd (l := ns.length) (d := .list (ns.map PyData.int)) (wrd_mk (Nat.le_refl _))
    exact okD_plain (by simpa [DD.plain] using this.1) (by have := this.2; simp [PyData.depth] at this ⊢; omega)
section
variable {P : Program} {w : World} {K : PySem.W.Frag} {mg : Str → Option Value} {base : Heap} {CL CS CR CP CT CM CW : Addr}
def S_kept_ends : PSp := fun ds Q => ∃ (t : PyData) (A C : Int), ds = [t, .int A, .int C] ∧ dOk t ∧ Q (kEn A C t)
@[simp] theorem S_kept_ends_at (t : PyData) (A C : Int) (Q : PyData → Prop) : S_kept_ends [t, .int A, .int C] Q ↔ (dOk t ∧ Q (kEn A C t)) := ⟨fun ⟨_, _, _, h, q⟩ => by cases h; exact q, fun q => ⟨_, _, _, rfl, q⟩⟩
theorem d_kept_ends (bi : ∀ x ∈ BI, mg x = none) (D : DefT K mg "kept_ends" s_kept_ends ps_kept_ends) (D_is_below : DefP P w K mg base 3 "is_below" 2 S_is_below) (D_kept_word : DefP P w K mg base 4 "kept_word" 2 S_kept_word) :
    DefP P w K mg base 5 "kept_ends" 3 S_kept_ends := by
  refine D.p N_kept_ends sc_kept_ends fun f cdv A outer s H E hr => ⟨_, _, jss_cons (js_if ((jw_or (jt_not (jt_b (je_isi_dict bi (je_var 0)))) (jw_or1 (jt_not (jt_b (je_all (by rfl) (bi _ (by decide)) ((jl_lc [("key", 4)] sc_kept_ends.nd (ji_keys (je_var 0)) (show blkC N_kept_ends (defScope s_kept_ends) _ _ = true by decide +kernel) (fun _ _ _ _ _ => jg_name 4 sc_kept_ends.nd rfl (by first | exact Or.inl rfl | exact Or.inr rfl)) (fun _ _ _ _ _ => jts_nil) (fun _ _ _ _ _ => je_f D_is_below hr (ja_cons (je_var 4) (ja_cons (je_var 1) ja_nil)))).je')))))).jt) (jss_one (js_ret je_non)) (jss_nil))
      (jss_cons (js_setDc 3 [("key", 4)] sc_kept_ends.nd rfl rfl (sw_dict rfl rfl rfl (by decide +kernel)) (ji_keys (je_var 0)) (show blkC N_kept_ends (defScope s_kept_ends) _ _ = true by decide +kernel) (fun _ _ _ _ _ => jg_name 4 sc_kept_ends.nd rfl (by first | exact Or.inl rfl | exact Or.inr rfl)) (fun _ _ _ _ _ => jts_nil) (fun _ _ _ _ _ => je_var 4) (fun _ _ _ _ _ => je_f D_kept_word hr (ja_cons (je_var 2) (ja_cons (je_dget hr (je_var 0) (je_var 4)) ja_nil))))
      (jss_one (js_ret (je_if (jt_noneIn hr (je_var 3)) je_non (je_var 3))))), fun ds Q hl h => ?_⟩
  obtain ⟨t, a, c, rfl, ht, q⟩ := h
  cases t with
  | dict es =>
    obtain ⟨nd, hle, hlen⟩ := ht
    simp [startE, -Prod.forall, wDc_def, -List.all_eq_true, -List.all_eq_false]
    refine lc_map (es.map (·.1)) 0 (fun R h => by simpa using h) (fun x => .bool (below a x)) (by simpa using hle) (fun x hx n1 Q' h => by simpa using h) (bools_of ?_)
    rw [all_map_id, List.all_map]
    have ee : ((fun x => below a x) ∘ fun x : PyData × PyData => x.1) = fun p : PyData × PyData => below a p.1 := rfl
    rw [ee]
    by_cases hall : (es.all fun p => below a p.1) = true
    · rw [if_pos hall]
      have hint : ∀ p ∈ es, ∃ i : Int, p.1 = .int i := fun p hp => by
        rw [List.all_eq_true] at hall
        obtain ⟨i, e, _⟩ := below_num (hall p hp)
        exact ⟨i, e⟩
      refine ⟨fun k acc n1 => acc = enAcc c (es.take k) ∧ (∀ p ∈ acc, keyA p.1 = true ∧ okD p.2 = true) ∧ acc.length ≤ k, ⟨by simp [enAcc], by simp, by simp⟩, ?_, ?_⟩
      · rintro k d acc n1 hk ⟨rfl, h2, h3⟩
        obtain ⟨p, hp, rfl⟩ : ∃ p, es[k]? = some p ∧ p.1 = d := by
          rw [List.getElem?_map] at hk
          cases e : es[k]? with
          | none => rw [e] at hk; cases hk
          | some p => rw [e] at hk; exact ⟨p, rfl, by simpa using hk⟩
        have hv := lookE_at nd hp
        have hm := List.mem_of_getElem? hp
        have hv' := hlen p hm
        have hk' := (List.getElem?_eq_some_iff.mp hp).1
        obtain ⟨i, hi⟩ := hint p hm
        have st := foldl_snoc (fun acc (p : PyData × PyData) => putE acc p.1 (keptW (.int c) p.2)) [] es hp
        have kk : keyA p.1 = true := by rw [hi]; rfl
        simp [-Prod.forall, hv, hv', kk]
        refine ⟨by omega, by simp only [enAcc]; exact st.symm, fun q hq => ?_, ?_⟩
        · rcases putE_mem hq with rfl | hq
          · exact ⟨kk, okW _ _⟩
          · exact h2 q hq
        · have := putE_len (enAcc c (es.take k)) p.1 (keptW (.int c) p.2)
          omega
      · rintro acc n1 ⟨rfl, h2, h3⟩
        rw [List.length_map, List.take_length] at h2 ⊢
        refine ⟨_, rfl, by rw [List.all_eq_true]; exact fun p hp => by rw [(h2 p hp).1, (h2 p hp).2]; rfl, ?_⟩
        have en : ∀ d : PyData, okD d = true → PyData.eqv d .none = noneD d := fun d _ => by cases d <;> rfl
        have e2 : ((enAcc c es).any fun p => p.2.eqv .none) = (enAcc c es).any fun p => noneD p.2 := by
          apply Bool.eq_iff_iff.mpr
          rw [List.any_eq_true, List.any_eq_true]
          exact ⟨fun ⟨p, hp, e⟩ => ⟨p, hp, by rw [← en _ (h2 p hp).2]; exact e⟩, fun ⟨p, hp, e⟩ => ⟨p, hp, by rw [en _ (h2 p hp).2]; exact e⟩⟩
        rw [e2]
        simp only [kEn, hall, if_true] at q
        by_cases hn : ((enAcc c es).any fun p => noneD p.2) = true
        · rw [if_pos hn] at q ⊢; exact q
        · rw [if_neg hn] at q ⊢; exact q
    · rw [if_neg hall]
      simp only [kEn] at q
      rw [if_neg hall] at q
      exact q
  | _ => simpa [startE, kEn] using q
def S_kept_reader : PSp := fun ds Q => ∃ d, ds = [d] ∧ rdOk d ∧ Q (kRd d)
@[simp] theorem S_kept_reader_at (d : PyData) (Q : PyData → Prop) : S_kept_reader [d] Q ↔ (rdOk d ∧ Q (kRd d)) := ⟨fun ⟨_, h, q⟩ => by cases h; exact q, fun q => ⟨_, rfl, q⟩⟩
theorem kRd_no {d : PyData} (h : ¬ row d 6 = true) : kRd d = .none := by
  unfold kRd
  split
  · rename_i a b c w m e h6
    exact absurd (by unfold row; rw [h6]; rfl) h
  · rfl
theorem d_kept_reader (bi : ∀ x ∈ BI, mg x = none) (D : DefT K mg "kept_reader" s_kept_reader ps_kept_reader) (D_is_row : DefP P w K mg base 2 "is_row" 2 S_is_row) (D_is_whole : DefP P w K mg base 1 "is_whole" 1 (sF1 fun d => .bool (whole d))) (D_kept_word : DefP P w K mg base 4 "kept_word" 2 S_kept_word)
    (D_kept_moves : DefP P w K mg base 6 "kept_moves" 4 S_kept_moves) (D_kept_ends : DefP P w K mg base 5 "kept_ends" 3 S_kept_ends) : DefP P w K mg base 7 "kept_reader" 1 S_kept_reader := by
  refine D.p N_kept_reader sc_kept_reader fun f cdv A outer s H E hr => ⟨_, _, jss_cons (js_if ((jw_or (jt_not (jt_b (je_f D_is_row hr (ja_cons (je_var 0) (ja_cons je_int ja_nil))))) (jw_or1 (jt_not (jt_b (je_all (by rfl) (bi _ (by decide)) ((jl_lc [("one", 7)] sc_kept_reader.nd (ji_seq (je_sl (je_var 0) jo_none (jo_some je_int))) (show blkC N_kept_reader (defScope s_kept_reader) _ _ = true by decide +kernel) (fun _ _ _ _ _ => jg_name 7 sc_kept_reader.nd rfl (by first | exact Or.inl rfl | exact Or.inr rfl)) (fun _ _ _ _ _ => jts_nil) (fun _ _ _ _ _ => (je_and (je_f D_is_whole hr (ja_cons (je_var 7) ja_nil)) (je_one (jc_v c_gt (je_var 7) je_int))))).je')))))).jt) (jss_one (js_ret je_non)) (jss_nil))
      (jss_cons (js_asg (je_sl (je_var 0) jo_none (jo_some je_int)) (jg_tup 3 (jgs_cons (jg_name 1 sc_kept_reader.nd rfl (by first | exact Or.inl rfl | exact Or.inr rfl)) (jgs_cons (jg_name 2 sc_kept_reader.nd rfl (by first | exact Or.inl rfl | exact Or.inr rfl)) (jgs_cons (jg_name 3 sc_kept_reader.nd rfl (by first | exact Or.inl rfl | exact Or.inr rfl)) jgs_nil)))))
      (jss_cons (js_asg (je_f D_kept_word hr (ja_cons (je_var 3) (ja_cons (je_ix (je_var 0) je_int) ja_nil))) (jg_name 4 sc_kept_reader.nd rfl (by first | exact Or.inl rfl | exact Or.inr rfl)))
      (jss_cons (js_asg (je_f D_kept_moves hr (ja_cons (je_ix (je_var 0) je_int) (ja_cons (je_var 1) (ja_cons (je_var 2) (ja_cons (je_var 3) ja_nil))))) (jg_name 5 sc_kept_reader.nd rfl (by first | exact Or.inl rfl | exact Or.inr rfl)))
      (jss_cons (js_asg (je_f D_kept_ends hr (ja_cons (je_ix (je_var 0) je_int) (ja_cons (je_var 1) (ja_cons (je_var 3) ja_nil)))) (jg_name 6 sc_kept_reader.nd rfl (by first | exact Or.inl rfl | exact Or.inr rfl)))
      (jss_one (js_ret (je_if ((jw_or (jt_isN (je_var 4)) (jw_or (jt_isN (je_var 5)) (jw_or1 (jt_isN (je_var 6))))).jt) je_non (je_tup (ja_cons (je_var 1) (ja_cons (je_var 2) (ja_cons (je_var 3) (ja_cons (je_var 4) (ja_cons (je_var 5) (ja_cons (je_var 6) ja_nil)))))))))))))), fun ds Q hl h => ?_⟩
  obtain ⟨d, rfl, hd, q⟩ := h
  simp [startE, -List.all_eq_true, -List.all_eq_false]
  by_cases hr6 : row d 6 = true
  · refine .inr ⟨hr6, ?_⟩
    obtain ⟨xs, e, hx⟩ := row_len hr6 (n := 6) rfl
    obtain ⟨a, b, c, ww, mm, ee, rfl⟩ := len6 hx
    have hls := lenOks_mem (lenOk_seq hd.1 e).2
    have hdo := hd.2 _ e
    have hq := isSeq_of e
    refine lc_map [a, b, c] 0 (fun R h => by simpa [e, hq] using h) (fun x => .bool (posI x)) (by show 3 ≤ 100000; decide) (fun x hx n1 Q' h => ?_) (bools_of ?_)
    · cases x with
      | int i => simpa [posI] using h
      | _ => simpa [posI] using h
    · rw [all_map_id]
      unfold kRd at q
      rw [e] at q
      simp only at q
      have ea : [a, b, c].all posI = (posI a && posI b && posI c) := by simp [Bool.and_assoc]
      rw [ea]
      cases hall : (posI a && posI b && posI c) with
      | false =>
        rw [if_neg Bool.false_ne_true]
        simpa [hall] using q
      | true =>
        rw [if_pos rfl]
        rw [hall, if_pos rfl] at q
        simp only [Bool.and_eq_true] at hall
        obtain ⟨⟨pa, pb⟩, pc⟩ := hall
        have ia := posI_int pa
        have ib := posI_int pb
        have ic := posI_int pc
        generalize intOf a = i at ia q
        generalize intOf b = j at ib q
        generalize intOf c = k at ic q
        subst ia ib ic
        have o4 := hls ww (by simp)
        have o5 := hdo mm (by simp)
        have o6 := hdo ee (by simp)
        simp [hq, e, o4, o5, o6, -List.all_eq_true, -List.all_eq_false]
        cases n1 : noneD (keptW (.int k) ww) with
        | true => simpa [n1] using q
        | false =>
          cases n2 : noneD (kMv i j k mm) with
          | true => simpa [n1, n2] using q
          | false =>
            cases n3 : noneD (kEn i k ee) with
            | true => simpa [n1, n2, n3] using q
            | false => simpa [n1, n2, n3] using q
  · have hf : row d 6 = false := by simpa using hr6
    rw [kRd_no hr6] at q
    simpa [hf] using q
def X_need_reader (C : Addr) : XSp := fun vs ds R RX => ∃ v d, vs = [v] ∧ ds = [d] ∧ rdOk d ∧ (noneD (kRd d) = false → R (kRd d)) ∧ (noneD (kRd d) = true → RX (.ref C) "reader" v d)
theorem x_need_reader (bi : ∀ x ∈ BI, mg x = none) (D : DefT K mg "need_reader" s_need_reader ps_need_reader) (D_kept_reader : DefP P w K mg base 7 "kept_reader" 1 S_kept_reader) (E_BadReader : ErrC P w K mg base "BadReader" "reader" CR) :
    DefXS P w K mg base 8 "need_reader" s_need_reader ps_need_reader (X_need_reader CR) := by
  refine D.px N_need_reader sc_need_reader fun f cdv A outer s H E hr tk vs ds R RX hl1 hl2 h => ?_
  obtain ⟨v, d, rfl, rfl, hd, h1, h2⟩ := h
  refine ⟨_, _, jss_cons (js_asg (je_f D_kept_reader hr (ja_cons (je_var 0) ja_nil)) (jg_name 1 sc_need_reader.nd rfl (by first | exact Or.inl rfl | exact Or.inr rfl)))
      (jss_cons (js_if (jt_isN (je_var 1)) (jss_one (js_raise 0 E_BadReader hr tk)) (jss_nil))
      (jss_one (js_ret (je_var 1)))), ?_⟩
  cases hn : noneD (kRd d) with
  | true => simp [startV, hd, hn, h2 hn]
  | false => simp [startV, hd, hn, h1 hn]
/-! ### samples, as they are kept -/
noncomputable def kOne (L S : Int) (acc : List (PyData × PyData)) (p : PyData) : Option (PyData × PyData) := match seqD p with
  | some [a, b] => match seqD b with
    | some ts => if noneD (keptW (.int L) a) || (lookE acc (keptW (.int L) a)).isSome || decide (1 < ts.length) || (ts.map (keptW (.int S))).any noneD then none else some (keptW (.int L) a, .list (ts.map (keptW (.int S))))
    | none => none
  | _ => none
noncomputable def kGo (L S : Int) : List (PyData × PyData) → List PyData → PyData
  | acc, [] => .dict acc
  | acc, p :: r => match kOne L S acc p with
    | some q => kGo L S (putE acc q.1 q.2) r
    | none => .none
noncomputable def kSm (L S : Int) (d : PyData) : PyData := match seqD d with
  | some xs => kGo L S [] xs
  | none => .none
def S_kept_sample : PSp := fun ds Q => ∃ (L S : Int) (d : PyData), ds = [.int L, .int S, d] ∧ lenOk d = true ∧ Q (kSm L S d)
@[simp] theorem S_kept_sample_at (L S : Int) (d : PyData) (Q : PyData → Prop) : S_kept_sample [.int L, .int S, d] Q ↔ (lenOk d = true ∧ Q (kSm L S d)) := ⟨fun ⟨_, _, _, h, q⟩ => by cases h; exact q, fun q => ⟨_, _, _, rfl, q⟩⟩
theorem d_kept_sample (bi : ∀ x ∈ BI, mg x = none) (D : DefT K mg "kept_sample" s_kept_sample ps_kept_sample) (D_is_list : DefP P w K mg base 1 "is_list" 1 (sF1 fun d => .bool (isSeq d))) (D_is_row : DefP P w K mg base 2 "is_row" 2 S_is_row) (D_kept_word : DefP P w K mg base 4 "kept_word" 2 S_kept_word) :
    DefP P w K mg base 5 "kept_sample" 3 S_kept_sample := by
  refine D.p N_kept_sample sc_kept_sample fun f cdv A outer s H E hr => ⟨_, _, jss_cons (js_if (jt_not (jt_b (je_f D_is_list hr (ja_cons (je_var 2) ja_nil)))) (jss_one (js_ret je_non)) (jss_nil))
      (jss_cons (js_asgO 3 sc_kept_sample.nd rfl (by first | exact Or.inl rfl | exact Or.inr rfl) ju_dict0)
      (jss_cons (js_for PassesOwn.never (ji_seq (je_var 2)) (jg_name 4 sc_kept_sample.nd rfl (by first | exact Or.inl rfl | exact Or.inr rfl)) (jss_cons (js_asg (je_if (jt_b (je_f D_is_row hr (ja_cons (je_var 4) (ja_cons je_int ja_nil)))) (je_f D_kept_word hr (ja_cons (je_var 0) (ja_cons (je_ix (je_var 4) je_int) ja_nil))) je_non) (jg_name 5 sc_kept_sample.nd rfl (by first | exact Or.inl rfl | exact Or.inr rfl)))
      (jss_cons (js_if ((jw_or (jt_isN (je_var 5)) (jw_or (jt_inOwn 3 hr (je_var 5)) (jw_or (jt_not (jt_b (je_f D_is_list hr (ja_cons (je_ix (je_var 4) je_int) ja_nil)))) (jw_or1 (jc_t c_gt (je_len (by rfl) (bi _ (by decide)) (je_ix (je_var 4) je_int)) je_int))))).jt) (jss_one (js_ret je_non)) (jss_nil))
      (jss_cons (js_setLcV 6 [("one", 7)] sc_kept_sample.nd rfl rfl (sw_true rfl rfl rfl (by decide +kernel)) (ji_seq (je_ix (je_var 4) je_int)) (show blkC N_kept_sample (defScope s_kept_sample) _ _ = true by decide +kernel) (fun _ _ _ _ _ => jg_name 7 sc_kept_sample.nd rfl (by first | exact Or.inl rfl | exact Or.inr rfl)) (fun _ _ _ _ _ => jts_nil) (fun _ _ _ _ _ => je_f D_kept_word hr (ja_cons (je_var 1) (ja_cons (je_var 7) ja_nil))))
      (jss_cons (js_if (jc_t (c_in hr) je_non (je_var 6)) (jss_one (js_ret je_non)) (jss_nil))
      (jss_one (js_putD 3 hr (je_var 6) (je_var 5))))))))
      (jss_frzD 3 (jss_one (js_ret (je_var 3)))))), fun ds Q hl h => ?_⟩
  obtain ⟨L, G, d, rfl, hd, q⟩ := h
  cases e : seqD d with
  | none => simpa [startE, isSeq_no e, kSm, e] using q
  | some xs =>
    have hlen := lenOk_seq hd e
    have hms := lenOks_mem hlen.2
    simp [startE, isSeq_of e, e, wFor_def, -Prod.forall]
    refine ⟨fun k en' => ∃ acc v4 v5 v6 v7 n', en' = ⟨[S.val (.int L), S.val (.int G), S.val d, S.ownD acc, v4, v5, v6, v7], n'⟩ ∧ kSm L G d = kGo L G acc (xs.drop k) ∧ (∀ p ∈ acc, keyT p.1 = true) ∧ acc.length ≤ k, ⟨[], _, _, _, _, _, rfl, by simp [kSm, e], by simp, by simp⟩, ?_, ?_⟩
    · rintro k p en' hk ⟨acc, v4, v5, v6, v7, n', rfl, h1, h2, h3⟩
      have hk' := (List.getElem?_eq_some_iff.mp hk).1
      have hpl := hms p (List.mem_of_getElem? hk)
      have dr : xs.drop k = p :: xs.drop (k + 1) := by
        obtain ⟨hl', rfl⟩ := List.getElem?_eq_some_iff.mp hk
        exact List.drop_eq_getElem_cons hl'
      rw [dr, kGo] at h1
      have bad : kOne L G acc p = none → Q .none := fun hb => by
        rw [hb] at h1
        rw [h1] at q
        exact q
      cases hrow : row p 2 with
      | false =>
        have := bad (by
          unfold kOne
          unfold row at hrow
          split
          · rename_i u v e'; rw [e'] at hrow; simp at hrow
          · rfl)
        simpa [-Prod.forall, hrow] using this
      | true =>
        obtain ⟨ws, e1, hws⟩ := row_len hrow (n := 2) rfl
        obtain ⟨a0, b0, rfl⟩ := len2 hws
        have l2 := lenOks_mem (lenOk_seq hpl e1).2
        have la := l2 a0 (by simp)
        have lb := l2 b0 (by simp)
        cases n1 : noneD (keptW (.int L) a0) with
        | true =>
          have := bad (by unfold kOne; rw [e1]; simp only; split <;> simp [n1])
          simpa [-Prod.forall, hrow, e1, la, n1] using this
        | false =>
          have kT : keyT (keptW (.int L) a0) = true := by
            rcases keptW_or (.int L) a0 with h | ⟨ns, h⟩
            · rw [h] at n1; cases n1
            · rw [h]; simp [keyT, keyA]
          have aT : (acc.all fun p => keyT p.1) = true := by rw [List.all_eq_true]; exact fun p hp => h2 p hp
          have oi : okIn acc (keptW (.int L) a0) = true := by simp only [okIn, kT, aT]; simp
          have ok : okKey acc (keptW (.int L) a0) = true := by simp only [okKey, kT, aT]; simp
          cases n2 : (lookE acc (keptW (.int L) a0)).isSome with
          | true =>
            have := bad (by unfold kOne; rw [e1]; simp only; split <;> simp [n1, n2])
            simpa [-Prod.forall, hrow, e1, la, n1, oi, n2] using this
          | false =>
            cases eb : seqD b0 with
            | none =>
              have := bad (by unfold kOne; rw [e1]; simp only; rw [eb])
              simpa [-Prod.forall, hrow, e1, la, n1, oi, n2, isSeq_no eb] using this
            | some ts =>
              by_cases n3 : 1 < ts.length
              · have := bad (by unfold kOne; rw [e1]; simp only; rw [eb]; simp [n3])
                have n3' : (1 : Int) < (ts.length : Int) := by omega
                simpa [-Prod.forall, hrow, e1, la, n1, oi, n2, isSeq_of eb, eb, n3'] using this
              · have n3' : ¬ (1 : Int) < (ts.length : Int) := by omega
                have lts := lenOks_mem (lenOk_seq lb eb).2
                simp [-Prod.forall, hrow, e1, la, n1, oi, n2, isSeq_of eb, eb, n3']
                refine lc_map ts n' (fun R h => by simpa [e1, eb] using h) (keptW (.int G)) (by omega) (fun x hx n1 Q' h => by simpa [lts x hx] using h) ⟨okD_list (n := 1) (fun y hy => ?_) (by decide), ?_⟩
                · obtain ⟨x, _, rfl⟩ := List.mem_map.mp hy
                  rcases keptW_or (.int G) x with h | ⟨ns, h⟩
                  · rw [h]; exact ⟨rfl, by decide⟩
                  · rw [h]
                    have := plain_wrd (l := ns.length) (d := .list (ns.map PyData.int)) (wrd_mk (Nat.le_refl _))
                    exact ⟨by simpa [DD.plain] using this.1, by have := this.2; simp [PyData.depth] at this ⊢; omega⟩
                · by_cases n4 : (ts.map (keptW (.int G))).any noneD = true
                  · have hq := bad (by unfold kOne; rw [e1]; simp only; rw [eb]; simp only; rw [n4]; simp)
                    rw [if_pos (by rw [List.any_eq_true] at n4; exact n4)]
                    exact hq
                  · rw [if_neg (by rw [List.any_eq_true] at n4; exact n4)]
                    have ek : kOne L G acc p = some (keptW (.int L) a0, .list (ts.map (keptW (.int G)))) := by
                      unfold kOne; rw [e1]; simp only; rw [eb]; simp only; rw [n1, n2, decide_eq_false n3]
                      rw [if_neg (by simpa using n4)]
                    rw [ek] at h1
                    refine ⟨ok, by omega, h1, fun q hq => ?_, ?_⟩
                    · rcases putE_mem hq with rfl | hq
                      · exact kT
                      · exact h2 q hq
                    · have := putE_len acc (keptW (.int L) a0) (.list (ts.map (keptW (.int G))))
                      omega
    · rintro en' ⟨acc, v4, v5, v6, v7, n', rfl, h1, h2, h3⟩
      rw [List.drop_length] at h1
      rw [h1] at q
      simpa [kGo] using q
end
end MC
namespace MC
open PySem PySem.Spec PyProof.Rows L2 DD
open Evl (Ex)
theorem posI_no {d : PyData} (h : posI d = false) : (∃ i : Int, d = .int i ∧ i < 1) ∨ whole d = false := by
  cases d with
  | int i => simp [posI] at h; exact .inl ⟨i, rfl, by omega⟩
  | _ => exact .inr rfl
theorem posI_yes {d : PyData} (h : posI d = true) : ∃ i : Int, d = .int i ∧ 1 ≤ i := by
  cases d <;> simp [posI] at h
  exact ⟨_, rfl, by omega⟩
@[simp] theorem whole_int (i : Int) : whole (.int i) = true := rfl
def X_smp (C : Addr) : XSp := fun vs ds R RX => ∃ v1 v2 v3 L S d, vs = [v1, v2, v3] ∧ ds = [.int L, .int S, d] ∧ lenOk d = true ∧ (noneD (kSm L S d) = true → RX (.ref C) "sample" v3 d) ∧ (noneD (kSm L S d) = false → R (kSm L S d))
/-- what need_all looks at, in its order -/
def X_all (CL CS CT CM CP : Addr) : XSp := fun vs ds R RX => ∃ v1 v2 v3 v4 v5 d1 d2 d3 d4 d5, vs = [v1, v2, v3, v4, v5] ∧ ds = [d1, d2, d3, d4, d5] ∧
  (posI d1 = false → RX (.ref CL) "letters" v1 d1) ∧ (posI d1 = true → posI d2 = false → RX (.ref CS) "signs" v2 d2) ∧ (posI d1 = true → posI d2 = true →
    (posI d3 = false → RX (.ref CT) "stands" v3 d3) ∧ (posI d3 = true → (number d4 = false → RX (.ref CM) "most" v4 d4) ∧ (number d4 = true →
      lenOk d5 = true ∧ (noneD (kSm (intOf d1) (intOf d2) d5) = true → RX (.ref CP) "sample" v5 d5) ∧ (noneD (kSm (intOf d1) (intOf d2) d5) = false → R (kSm (intOf d1) (intOf d2) d5)))))
theorem ex2 {vs : List V} (h : vs.length = 2) : ∃ a b, vs = [a, b] := by
  match vs, h with
  | [a, b], _ => exact ⟨a, b, rfl⟩
theorem ex3 {vs : List V} (h : vs.length = 3) : ∃ a b c, vs = [a, b, c] := by
  match vs, h with
  | [a, b, c], _ => exact ⟨a, b, c, rfl⟩
theorem ex5 {vs : List V} (h : vs.length = 5) : ∃ a b c d e, vs = [a, b, c, d, e] := by
  match vs, h with
  | [a, b, c, d, e], _ => exact ⟨a, b, c, d, e, rfl⟩
section
variable {P : Program} {w : World} {K : PySem.W.Frag} {mg : Str → Option Value} {base : Heap} {CL CS CR CP CT CM CW : Addr}
theorem x_need_sample (bi : ∀ x ∈ BI, mg x = none) (D : DefT K mg "need_sample" s_need_sample ps_need_sample) (D_kept_sample : DefP P w K mg base 5 "kept_sample" 3 S_kept_sample) (E_BadSample : ErrC P w K mg base "BadSample" "sample" CP) :
    DefXS P w K mg base 6 "need_sample" s_need_sample ps_need_sample (X_smp CP) := by
  refine D.px N_need_sample sc_need_sample fun f cdv A outer s H E hr tk vs ds R RX hl1 hl2 h => ?_
  obtain ⟨v1, v2, v3, L, G, d, rfl, rfl, hd, h1, h2⟩ := h
  refine ⟨_, _, jss_cons (js_asg (je_f D_kept_sample hr (ja_cons (je_var 0) (ja_cons (je_var 1) (ja_cons (je_var 2) ja_nil)))) (jg_name 3 sc_need_sample.nd rfl (by first | exact Or.inl rfl | exact Or.inr rfl)))
      (jss_cons (js_if (jt_isN (je_var 3)) (jss_one (js_raise 2 E_BadSample hr tk)) (jss_nil))
      (jss_one (js_ret (je_var 3)))), ?_⟩
  cases hn : noneD (kSm L G d) with
  | true => simp [startV, hd, hn, h1 hn]
  | false => simp [startV, hd, hn, h2 hn]
theorem x_need_all (bi : ∀ x ∈ BI, mg x = none) (D : DefT K mg "need_all" s_need_all ps_need_all) (XD_check_sizes : DefXS P w K mg base 3 "check_sizes" s_check_sizes ps_check_sizes (X_sizes CL CS)) (D_is_whole : DefP P w K mg base 1 "is_whole" 1 (sF1 fun d => .bool (whole d))) (D_is_number : DefP P w K mg base 2 "is_number" 1 (sF1 fun d => .bool (number d)))
    (XD_need_sample : DefXS P w K mg base 6 "need_sample" s_need_sample ps_need_sample (X_smp CP)) (E_BadStands : ErrC P w K mg base "BadStands" "stands" CT) (E_BadMost : ErrC P w K mg base "BadMost" "most" CM) :
    DefXS P w K mg base 7 "need_all" s_need_all ps_need_all (X_all CL CS CT CM CP) := by
  refine D.px N_need_all sc_need_all fun f cdv A outer s H E hr tk vs ds R RX hl1 hl2 h => ?_
  obtain ⟨v1, v2, v3, v4, v5, d1, d2, d3, d4, d5, rfl, rfl, h1, h2, h3⟩ := h
  by_cases hs : posI d1 = true ∧ posI d2 = true
  · obtain ⟨p1, p2⟩ := hs
    obtain ⟨g3, g4⟩ := h3 p1 p2
    have fits2 : ∀ vs : List V, vs.length = 2 → ∀ R' : PyData → Prop, R' .none → X_sizes CL CS vs [d1, d2] R' (fun _ _ _ _ => False) := fun vs hv R' q => by
      obtain ⟨a, b, rfl⟩ := ex2 hv
      exact ⟨a, b, d1, d2, rfl, rfl, (fun z => by rw [p1] at z; cases z), (fun _ z => by rw [p2] at z; cases z), fun _ _ => q⟩
    by_cases p3 : posI d3 = true
    · obtain ⟨k4, k5⟩ := g4 p3
      obtain ⟨n3, rfl, hn3⟩ := posI_yes p3
      have q3 : ¬ n3 < 1 := by omega
      cases p4 : number d4 with
      | false =>
        refine ⟨_, _, jss_cons (js_expr (je_fx XD_check_sizes.dx hr (ja_cons (je_var 0) (ja_cons (je_var 1) ja_nil))))
      (jss_cons (js_if ((jw_or (jt_not (jt_b (je_f D_is_whole hr (ja_cons (je_var 2) ja_nil)))) (jw_or1 (jc_t c_lt (je_var 2) je_int))).jt) (jss_one (js_raise 2 E_BadStands hr tk)) (jss_nil))
      (jss_stop (js_if (jt_not (jt_b (je_f D_is_number hr (ja_cons (je_var 3) ja_nil)))) (jss_one (js_raise 3 E_BadMost hr tk)) (jss_nil)))), ?_⟩
        simp [startV, q3, p4]
        exact fun vs hv => fits2 vs hv _ (by first | exact ⟨hn3, k4 p4⟩ | exact k4 p4)
      | true =>
        obtain ⟨hl5, m5, m6⟩ := k5 p4
        obtain ⟨n1, rfl, _⟩ := posI_yes p1
        obtain ⟨n2, rfl, _⟩ := posI_yes p2
        cases hn : noneD (kSm n1 n2 d5) with
        | true =>
          refine ⟨_, _, jss_cons (js_expr (je_fx XD_check_sizes.dx hr (ja_cons (je_var 0) (ja_cons (je_var 1) ja_nil))))
      (jss_cons (js_if ((jw_or (jt_not (jt_b (je_f D_is_whole hr (ja_cons (je_var 2) ja_nil)))) (jw_or1 (jc_t c_lt (je_var 2) je_int))).jt) (jss_one (js_never)) (jss_nil))
      (jss_cons (js_if (jt_not (jt_b (je_f D_is_number hr (ja_cons (je_var 3) ja_nil)))) (jss_one (js_never)) (jss_nil))
      (jss_stop (js_retX (jx_f XD_need_sample.dx hr tk (jax_var 0 (jax_var 1 (jax_var 4 jax_nil)))))))), ?_⟩
          simp [startV, q3, p4]
          refine fun vs hv => fits2 vs hv _ ⟨hn3, fun ws hw hx => ?_⟩
          obtain ⟨a, b, c, rfl⟩ := ex3 hw
          have hc := hx 2 4 v5 d5 rfl rfl
          simp at hc
          subst hc
          exact ⟨a, b, c, n1, n2, d5, rfl, rfl, hl5, fun _ => m5 hn, (fun z => by rw [hn] at z; cases z)⟩
        | false =>
          refine ⟨_, _, jss_cons (js_expr (je_fx XD_check_sizes.dx hr (ja_cons (je_var 0) (ja_cons (je_var 1) ja_nil))))
      (jss_cons (js_if ((jw_or (jt_not (jt_b (je_f D_is_whole hr (ja_cons (je_var 2) ja_nil)))) (jw_or1 (jc_t c_lt (je_var 2) je_int))).jt) (jss_one (js_raise 2 E_BadStands hr tk)) (jss_nil))
      (jss_cons (js_if (jt_not (jt_b (je_f D_is_number hr (ja_cons (je_var 3) ja_nil)))) (jss_one (js_raise 3 E_BadMost hr tk)) (jss_nil))
      (jss_one (js_ret (je_fx XD_need_sample.dx hr (ja_cons (je_var 0) (ja_cons (je_var 1) (ja_cons (je_var 4) ja_nil)))))))), ?_⟩
          simp [startV, q3, p4]
          refine fun vs hv => fits2 vs hv _ fun ws hw => ?_
          obtain ⟨a, b, c, rfl⟩ := ex3 hw
          exact ⟨a, b, c, n1, n2, d5, rfl, rfl, hl5, (fun z => by rw [hn] at z; cases z), fun _ => m6 hn⟩
    · have p3' : posI d3 = false := by simpa using p3
      refine ⟨_, _, jss_cons (js_expr (je_fx XD_check_sizes.dx hr (ja_cons (je_var 0) (ja_cons (je_var 1) ja_nil))))
      (jss_stop (js_if ((jw_or (jt_not (jt_b (je_f D_is_whole hr (ja_cons (je_var 2) ja_nil)))) (jw_or1 (jc_t c_lt (je_var 2) je_int))).jt) (jss_one (js_raise 2 E_BadStands hr tk)) (jss_nil))), ?_⟩
      rcases posI_no p3' with ⟨i, rfl, hi⟩ | hw
      · simp [startV, hi]
        exact fun vs hv => fits2 vs hv _ (by first | exact ⟨fun z => absurd z (by omega), g3 p3'⟩ | exact g3 p3')
      · simp [startV, hw]
        exact fun vs hv => fits2 vs hv _ (g3 p3')
  · refine ⟨_, _, jss_stop (js_exprX (jx_f XD_check_sizes.dx hr tk (jax_var 0 (jax_var 1 jax_nil)))), ?_⟩
    simp [startV]
    refine fun vs hv hx => ?_
    obtain ⟨a, b, rfl⟩ := ex2 hv
    have ha := hx 0 0 v1 d1 rfl rfl
    have hb := hx 1 1 v2 d2 rfl rfl
    simp at ha hb
    subst ha hb
    exact ⟨_, _, d1, d2, rfl, rfl, h1, h2, fun z1 z2 => absurd ⟨z1, z2⟩ hs⟩
theorem ex6 {vs : List V} (h : vs.length = 6) : ∃ a b c d e f, vs = [a, b, c, d, e, f] := by
  match vs, h with
  | [a, b, c, d, e, f], _ => exact ⟨a, b, c, d, e, f, rfl⟩
theorem one_of {vs : List V} {v : V} (h : vs.length = 1) (e : vs[0]? = some v) : vs = [v] := by
  match vs, h, e with
  | [x], _, e => simpa using e
/-- letters, signs are the first two things of three -/
def X_sizes3 (C1 C2 : Addr) : XSp := fun vs ds _ RX => ∃ v1 v2 v3 d1 d2 d3, vs = [v1, v2, v3] ∧ ds = [d1, d2, d3] ∧ ((posI d1 = false ∧ RX (.ref C1) "letters" v1 d1) ∨ (posI d1 = true ∧ posI d2 = false ∧ RX (.ref C2) "signs" v2 d2))
theorem x_is_sample (D : DefT K mg "is_sample" s_is_sample ps_is_sample) (XD_check_sizes : DefXS P w K mg base 3 "check_sizes" s_check_sizes ps_check_sizes (X_sizes CL CS)) :
    DefXS P w K mg base 4 "is_sample" s_is_sample ps_is_sample (X_sizes3 CL CS) := by
  refine D.px N_is_sample sc_is_sample fun f cdv A outer s H E hr tk vs ds R RX hl1 hl2 h => ?_
  obtain ⟨v1, v2, v3, d1, d2, d3, rfl, rfl, h⟩ := h
  refine ⟨_, _, jss_stop (js_exprX (jx_f XD_check_sizes.dx hr tk (jax_var 0 (jax_var 1 jax_nil)))), ?_⟩
  simp [startV]
  refine fun vs hv hx => ?_
  obtain ⟨a, b, rfl⟩ := ex2 hv
  have ha := hx 0 0 v1 d1 rfl rfl
  have hb := hx 1 1 v2 d2 rfl rfl
  simp at ha hb
  subst ha hb
  refine ⟨_, _, d1, d2, rfl, rfl, ?_⟩
  rcases h with ⟨p1, q⟩ | ⟨p1, p2, q⟩
  · exact ⟨fun _ => q, (fun z => by rw [p1] at z; cases z), fun z => by rw [p1] at z; cases z⟩
  · exact ⟨(fun z => by rw [p1] at z; cases z), fun _ _ => q, fun _ z => by rw [p2] at z; cases z⟩
def X_tree (CL CS CP : Addr) : XSp := fun vs ds _ RX => ∃ v1 v2 v3 d1 d2 d3, vs = [v1, v2, v3] ∧ ds = [d1, d2, d3] ∧ ((posI d1 = false ∧ RX (.ref CL) "letters" v1 d1) ∨ (posI d1 = true ∧ posI d2 = false ∧ RX (.ref CS) "signs" v2 d2) ∨
  (posI d1 = true ∧ posI d2 = true ∧ lenOk d3 = true ∧ noneD (kSm (intOf d1) (intOf d2) d3) = true ∧ RX (.ref CP) "sample" v3 d3))
theorem x_tree_reader (D : DefT K mg "tree_reader" s_tree_reader ps_tree_reader) (XD_check_sizes : DefXS P w K mg base 3 "check_sizes" s_check_sizes ps_check_sizes (X_sizes CL CS)) (XD_need_sample : DefXS P w K mg base 6 "need_sample" s_need_sample ps_need_sample (X_smp CP))
    (D_tree_of : DefP P w K mg base 0 "tree_of" 3 (fun _ _ => False)) (D_least_of : DefP P w K mg base 0 "least_of" 1 (fun _ _ => False)) (D_told_reader : DefP P w K mg base 0 "told_reader" 1 (fun _ _ => False)) :
    DefXS P w K mg base 8 "tree_reader" s_tree_reader ps_tree_reader (X_tree CL CS CP) := by
  refine D.px N_tree_reader sc_tree_reader fun f cdv A outer s H E hr tk vs ds R RX hl1 hl2 h => ?_
  obtain ⟨v1, v2, v3, d1, d2, d3, rfl, rfl, h⟩ := h
  rcases or_assoc.mpr h with h | ⟨p1, p2, hl3, hn, q⟩
  · refine ⟨_, _, jss_stop (js_exprX (jx_f XD_check_sizes.dx hr tk (jax_var 0 (jax_var 1 jax_nil)))), ?_⟩
    simp [startV]
    refine fun vs hv hx => ?_
    obtain ⟨a, b, rfl⟩ := ex2 hv
    have ha := hx 0 0 v1 d1 rfl rfl
    have hb := hx 1 1 v2 d2 rfl rfl
    simp at ha hb
    subst ha hb
    refine ⟨_, _, d1, d2, rfl, rfl, ?_⟩
    rcases h with h | h
    · exact ⟨fun _ => h.2, (fun z => by rw [h.1] at z; cases z), fun z => by rw [h.1] at z; cases z⟩
    · exact ⟨(fun z => by rw [h.1] at z; cases z), fun _ _ => h.2.2, fun _ z => by rw [h.2.1] at z; cases z⟩
  · obtain ⟨n1, rfl, _⟩ := posI_yes p1
    obtain ⟨n2, rfl, _⟩ := posI_yes p2
    refine ⟨_, _, jss_cons (js_expr (je_fx XD_check_sizes.dx hr (ja_cons (je_var 0) (ja_cons (je_var 1) ja_nil))))
      (jss_stop (js_retX (jx_arg1 D_told_reader hr (jx_ix (jx_arg1 D_least_of hr (jx_args D_tree_of hr (jae_next (je_var 0) (jae_next (je_var 1) (jae_here (jx_f XD_need_sample.dx hr tk (jax_var 0 (jax_var 1 (jax_var 2 jax_nil)))) ja_nil)))) ja_nil) je_int) ja_nil))), ?_⟩
    simp [startV]
    refine fun vs hv => ?_
    obtain ⟨a, b, rfl⟩ := ex2 hv
    refine ⟨a, b, _, _, rfl, rfl, (fun z => by rw [p1] at z; cases z), (fun _ z => by rw [p2] at z; cases z), fun _ _ => ?_⟩
    refine fun ws hw hx => ?_
    obtain ⟨a, b, c, rfl⟩ := ex3 hw
    have hc := hx 2 2 v3 d3 rfl rfl
    simp at hc
    subst hc
    exact ⟨a, b, _, n1, n2, d3, rfl, rfl, hl3, fun _ => q, (fun z => by rw [show noneD (kSm n1 n2 d3) = true from hn] at z; cases z)⟩
/-- what is refused by all_fitting, agreed -/
def X_bad5 (CL CS CT CM CP : Addr) (vs : List V) (ds : List PyData) (RX : Value → Str → V → PyData → Prop) : Prop := ∃ v1 v2 v3 v4 v5 d1 d2 d3 d4 d5, vs = [v1, v2, v3, v4, v5] ∧ ds = [d1, d2, d3, d4, d5] ∧ ((posI d1 = false ∧ RX (.ref CL) "letters" v1 d1) ∨ (posI d1 = true ∧ posI d2 = false ∧ RX (.ref CS) "signs" v2 d2) ∨
  (posI d1 = true ∧ posI d2 = true ∧ posI d3 = false ∧ RX (.ref CT) "stands" v3 d3) ∨ (posI d1 = true ∧ posI d2 = true ∧ posI d3 = true ∧ number d4 = false ∧ RX (.ref CM) "most" v4 d4) ∨
  (posI d1 = true ∧ posI d2 = true ∧ posI d3 = true ∧ number d4 = true ∧ lenOk d5 = true ∧ noneD (kSm (intOf d1) (intOf d2) d5) = true ∧ RX (.ref CP) "sample" v5 d5))
theorem X_bad5.all {CL CS CT CM CP : Addr} {vs : List V} {ds : List PyData} {R : PyData → Prop} {RX : Value → Str → V → PyData → Prop} (h : X_bad5 CL CS CT CM CP vs ds RX) : X_all CL CS CT CM CP vs ds R RX := by
  obtain ⟨v1, v2, v3, v4, v5, d1, d2, d3, d4, d5, rfl, rfl, h⟩ := h
  refine ⟨v1, v2, v3, v4, v5, d1, d2, d3, d4, d5, rfl, rfl, ?_⟩
  have ff : ∀ {b : Bool} {Z : Prop}, b = true → b = false → Z := fun h1 h2 => by rw [h1] at h2; cases h2
  rcases h with ⟨p, q⟩ | ⟨p1, p2, q⟩ | ⟨p1, p2, p3, q⟩ | ⟨p1, p2, p3, p4, q⟩ | ⟨p1, p2, p3, p4, hl, hn, q⟩
  · exact ⟨fun _ => q, fun z => ff z p, fun z => ff z p⟩
  · exact ⟨fun z => ff p1 z, fun _ _ => q, fun _ z => ff z p2⟩
  · exact ⟨fun z => ff p1 z, fun _ z => ff p2 z, fun _ _ => ⟨fun _ => q, fun z => ff z p3⟩⟩
  · exact ⟨fun z => ff p1 z, fun _ z => ff p2 z, fun _ _ => ⟨fun z => ff p3 z, fun _ => ⟨fun _ => q, fun z => ff z p4⟩⟩⟩
  · exact ⟨fun z => ff p1 z, fun _ z => ff p2 z, fun _ _ => ⟨fun z => ff p3 z, fun _ => ⟨fun z => ff p4 z, fun _ => ⟨hl, fun _ => q, fun z => ff hn z⟩⟩⟩⟩
theorem x_all_fitting (D : DefT K mg "all_fitting" s_all_fitting ps_all_fitting) (XD_need_all : DefXS P w K mg base 7 "need_all" s_need_all ps_need_all (X_all CL CS CT CM CP)) (D_fitting : DefP P w K mg base 0 "fitting" 5 (fun _ _ => False)) :
    DefXS P w K mg base 8 "all_fitting" s_all_fitting ps_all_fitting (fun vs ds _ RX => X_bad5 CL CS CT CM CP vs ds RX) := by
  refine D.px N_all_fitting sc_all_fitting fun f cdv A outer s H E hr tk vs ds R RX hl1 hl2 h => ?_
  obtain ⟨v1, v2, v3, v4, v5, d1, d2, d3, d4, d5, rfl, rfl, _⟩ := id h
  refine ⟨_, _, jss_stop (js_asgX (jx_args D_fitting hr (jae_next (je_var 0) (jae_next (je_var 1) (jae_next (je_var 2) (jae_next (je_var 3) (jae_here (jx_f XD_need_all.dx hr tk (jax_var 0 (jax_var 1 (jax_var 2 (jax_var 3 (jax_var 4 jax_nil)))))) ja_nil)))))) (jg_name 5 sc_all_fitting.nd rfl (by first | exact Or.inl rfl | exact Or.inr rfl))), ?_⟩
  simp [startV]
  refine fun vs hv hx => ?_
  obtain ⟨a, b, c, d, e, rfl⟩ := ex5 hv
  have h1 := hx 0 0 v1 d1 rfl rfl
  have h2 := hx 1 1 v2 d2 rfl rfl
  have h3 := hx 2 2 v3 d3 rfl rfl
  have h4 := hx 3 3 v4 d4 rfl rfl
  have h5 := hx 4 4 v5 d5 rfl rfl
  simp at h1 h2 h3 h4 h5
  subst h1 h2 h3 h4 h5
  exact h.all
theorem x_agreed (D : DefT K mg "agreed" s_agreed ps_agreed) (XD_need_all : DefXS P w K mg base 7 "need_all" s_need_all ps_need_all (X_all CL CS CT CM CP)) (D_kept_word : DefP P w K mg base 4 "kept_word" 2 S_kept_word) (E_BadWord : ErrC P w K mg base "BadWord" "word" CW) :
    DefXS P w K mg base 8 "agreed" s_agreed ps_agreed (fun vs ds _ RX => ∃ v1 v2 v3 v4 v5 v6 d1 d2 d3 d4 d5 d6, vs = [v1, v2, v3, v4, v5, v6] ∧ ds = [d1, d2, d3, d4, d5, d6] ∧ (X_bad5 CL CS CT CM CP [v1, v2, v3, v4, v5] [d1, d2, d3, d4, d5] RX ∨
      (posI d1 = true ∧ posI d2 = true ∧ posI d3 = true ∧ number d4 = true ∧ lenOk d5 = true ∧ noneD (kSm (intOf d1) (intOf d2) d5) = false ∧ lenOk d6 = true ∧ noneD (keptW d1 d6) = true ∧ RX (.ref CW) "word" v6 d6))) := by
  refine D.px N_agreed sc_agreed fun f cdv A outer s H E hr tk vs ds R RX hl1 hl2 h => ?_
  obtain ⟨v1, v2, v3, v4, v5, v6, d1, d2, d3, d4, d5, d6, rfl, rfl, h⟩ := h
  rcases h with h | ⟨p1, p2, p3, p4, hl5, hn, hl6, hw, q⟩
  · refine ⟨_, _, jss_stop (js_asgX (jx_f XD_need_all.dx hr tk (jax_var 0 (jax_var 1 (jax_var 2 (jax_var 3 (jax_var 4 jax_nil)))))) (jg_name 6 sc_agreed.nd rfl (by first | exact Or.inl rfl | exact Or.inr rfl))), ?_⟩
    simp [startV]
    refine fun vs hv hx => ?_
    obtain ⟨a, b, c, d, e, rfl⟩ := ex5 hv
    have h1 := hx 0 0 v1 d1 rfl rfl
    have h2 := hx 1 1 v2 d2 rfl rfl
    have h3 := hx 2 2 v3 d3 rfl rfl
    have h4 := hx 3 3 v4 d4 rfl rfl
    have h5 := hx 4 4 v5 d5 rfl rfl
    simp at h1 h2 h3 h4 h5
    subst h1 h2 h3 h4 h5
    exact h.all
  · obtain ⟨n1, rfl, _⟩ := posI_yes p1
    refine ⟨_, _, jss_cons (js_asg (je_fx XD_need_all.dx hr (ja_cons (je_var 0) (ja_cons (je_var 1) (ja_cons (je_var 2) (ja_cons (je_var 3) (ja_cons (je_var 4) ja_nil)))))) (jg_name 6 sc_agreed.nd rfl (by first | exact Or.inl rfl | exact Or.inr rfl)))
      (jss_cons (js_asg (je_f D_kept_word hr (ja_cons (je_var 0) (ja_cons (je_var 5) ja_nil))) (jg_name 7 sc_agreed.nd rfl (by first | exact Or.inl rfl | exact Or.inr rfl)))
      (jss_stop (js_if (jt_isN (je_var 7)) (jss_one (js_raise 5 E_BadWord hr tk)) (jss_nil)))), ?_⟩
    have ff : ∀ {b : Bool} {Z : Prop}, b = true → b = false → Z := fun h1 h2 => by rw [h1] at h2; cases h2
    simp [startV]
    refine fun vs hv => ?_
    obtain ⟨a, b, c, d, e, rfl⟩ := ex5 hv
    refine ⟨a, b, c, d, e, _, _, _, _, _, rfl, rfl, fun z => ff p1 z, fun _ z => ff p2 z, fun _ _ => ⟨fun z => ff p3 z, fun _ => ⟨fun z => ff p4 z, fun _ => ⟨hl5, fun z => ff z hn, fun _ => ?_⟩⟩⟩⟩
    simp [hl6, hw]
    exact q
def X_fits (CR CP : Addr) : XSp := fun vs ds _ RX => ∃ v1 v2 d1 d2, vs = [v1, v2] ∧ ds = [d1, d2] ∧ rdOk d1 ∧ ((noneD (kRd d1) = true ∧ RX (.ref CR) "reader" v1 d1) ∨ ∃ (a b c : Int) (r : List PyData), kRd d1 = .tuple (.int a :: .int b :: .int c :: r) ∧ lenOk d2 = true ∧ noneD (kSm b c d2) = true ∧ RX (.ref CP) "sample" v2 d2)
theorem x_fits (D : DefT K mg "fits" s_fits ps_fits) (XD_need_reader : DefXS P w K mg base 8 "need_reader" s_need_reader ps_need_reader (X_need_reader CR)) (XD_need_sample : DefXS P w K mg base 6 "need_sample" s_need_sample ps_need_sample (X_smp CP)) (D_is_fitting : DefP P w K mg base 0 "is_fitting" 2 (fun _ _ => False)) :
    DefXS P w K mg base 9 "fits" s_fits ps_fits (X_fits CR CP) := by
  refine D.px N_fits sc_fits fun f cdv A outer s H E hr tk vs ds R RX hl1 hl2 h => ?_
  obtain ⟨v1, v2, d1, d2, rfl, rfl, ho, h⟩ := h
  rcases h with ⟨hn, q⟩ | ⟨a, b, c, r, e, hl2', hn, q⟩
  · refine ⟨_, _, jss_stop (js_asgX (jx_f XD_need_reader.dx hr tk (jax_var 0 jax_nil)) (jg_name 2 sc_fits.nd rfl (by first | exact Or.inl rfl | exact Or.inr rfl))), ?_⟩
    simp [startV]
    refine fun vs hv hx => ?_
    have h1 := one_of hv (hx 0 0 v1 d1 rfl rfl)
    subst h1
    exact ⟨v1, d1, rfl, rfl, ho, (fun z => by rw [hn] at z; cases z), fun _ => q⟩
  · refine ⟨_, _, jss_cons (js_asg (je_fx XD_need_reader.dx hr (ja_cons (je_var 0) ja_nil)) (jg_name 2 sc_fits.nd rfl (by first | exact Or.inl rfl | exact Or.inr rfl)))
      (jss_stop (js_retX (jx_args D_is_fitting hr (jae_next (je_var 2) (jae_here (jx_f XD_need_sample.dx hr tk (jax_cons (je_ix (je_var 2) je_int) (jax_cons (je_ix (je_var 2) je_int) (jax_var 1 jax_nil)))) ja_nil))))), ?_⟩
    simp [startV]
    refine fun vs hv => ?_
    obtain ⟨v, rfl⟩ : ∃ v, vs = [v] := by
      match vs, hv with
      | [v], _ => exact ⟨v, rfl⟩
    refine ⟨v, d1, rfl, rfl, ho, fun _ => ?_, (fun z => by rw [e] at z; cases z)⟩
    rw [e]
    simp [seqD]
    refine fun ws hw hx => ?_
    obtain ⟨a', b', c', rfl⟩ := ex3 hw
    have hc := hx 2 1 v2 d2 rfl rfl
    simp at hc
    subst hc
    exact ⟨a', b', _, b, c, d2, rfl, rfl, hl2', fun _ => q, (fun z => by rw [hn] at z; cases z)⟩
end
end MC
namespace MC
open PySem PySem.Spec PyProof.Rows L2 DD CL LamX NdefX
open Evl (Ex)
abbrev s__law_met : Stmt := top 63
abbrev N__law_met : List Str := ["ask", "e"]
abbrev ps__law_met : List Str := ["ask"]
theorem sc__law_met : FnScope N__law_met ps__law_met (defScope s__law_met) := ⟨rfl, rfl, rfl, by decide +kernel, rfl, by decide +kernel, by decide +kernel⟩
abbrev s__law_is_very : Stmt := top 59
abbrev N__law_is_very : List Str := ["word", "ask", "odd", "found"]
abbrev ps__law_is_very : List Str := ["word", "ask"]
theorem sc__law_is_very : FnScope N__law_is_very ps__law_is_very (defScope s__law_is_very) := ⟨rfl, rfl, rfl, by decide +kernel, rfl, by decide +kernel, by decide +kernel⟩
abbrev s__law_all_met : Stmt := top 64
abbrev N__law_all_met : List Str := ["asks", "due", "ask"]
abbrev ps__law_all_met : List Str := ["asks", "due"]
theorem sc__law_all_met : FnScope N__law_all_met ps__law_all_met (defScope s__law_all_met) := ⟨rfl, rfl, rfl, by decide +kernel, rfl, by decide +kernel, by decide +kernel⟩
def lam__law_is_very_0 : Expr := lamN s__law_is_very 0
abbrev lN__law_is_very_0 : List Str := ["ask", "odd"]
abbrev lp__law_is_very_0 : List Str := []
abbrev lf__law_is_very_0 : List Str := ["ask", "odd"]
theorem lS__law_is_very_0 : NScope lN__law_is_very_0 lp__law_is_very_0 lf__law_is_very_0 (lamSc lam__law_is_very_0) := nscope_by (by decide +kernel)
theorem lF__law_is_very_0 : ∀ y ∈ lf__law_is_very_0, (y, NameKind.free) ∈ (lamSc lam__law_is_very_0).names := ndef_fr (sc := defScope s__law_is_very) (by decide +kernel)
theorem lE__law_is_very_0 : ∀ y ∈ (lamSc lam__law_is_very_0).names, y.2 = .free → (defScope s__law_is_very).names.lookup y.1 = some .cell ∨ (defScope s__law_is_very).names.lookup y.1 = some .free := ndef_free (fr := lf__law_is_very_0) (by decide +kernel)
theorem lB__law_is_very_0 (q : Str) (cl : List (Str × Addr)) (pm ctv : Value) (c : Addr) (us : List Value) (hl : us.length = (lp__law_is_very_0).length) : bindArgs (PySem.W.kla_fn "<lambda>" q (lamP lam__law_is_very_0) (lamB lam__law_is_very_0) (lamSc lam__law_is_very_0) cl pm (.ref c) ctv) ⟨us, []⟩ = pure ((lp__law_is_very_0).zip us) := match us, hl with | [], _ => rfl
section
variable {P : Program} {w : World} {K : PySem.W.Frag} {mg : Str → Option Value} {base : Heap}
def CsK (C1 C2 C3 C4 C5 C6 C7 : Addr) : List (Addr × Str × Str) := [(C1, "letters", "letters"), (C2, "signs", "signs"), (C3, "stands", "stands"), (C4, "most", "most"), (C5, "reader", "reader"), (C6, "sample", "sample"), (C7, "word", "word")]
theorem met_ok {C1 C2 C3 C4 C5 C6 C7 : Addr} {f : Addr} {fd : FuncData} {k : Nat} (F : Fun K "_law_met" "_law_met" s__law_met f fd) (R1 : ErrC P w K mg base "BadLetters" "letters" C1) (R2 : ErrC P w K mg base "BadSigns" "signs" C2) (R3 : ErrC P w K mg base "BadStands" "stands" C3) (R4 : ErrC P w K mg base "BadMost" "most" C4) (R5 : ErrC P w K mg base "BadReader" "reader" C5) (R6 : ErrC P w K mg base "BadSample" "sample" C6) (R7 : ErrC P w K mg base "BadWord" "word" C7)
    (e11 : PySem.W.exmOne K (.ref C1) (.ref C1) = some true) (e22 : PySem.W.exmOne K (.ref C2) (.ref C2) = some true) (e33 : PySem.W.exmOne K (.ref C3) (.ref C3) = some true) (e44 : PySem.W.exmOne K (.ref C4) (.ref C4) = some true) (e55 : PySem.W.exmOne K (.ref C5) (.ref C5) = some true) (e66 : PySem.W.exmOne K (.ref C6) (.ref C6) = some true) (e77 : PySem.W.exmOne K (.ref C7) (.ref C7) = some true)
    (e21 : PySem.W.exmOne K (.ref C2) (.ref C1) = some false) (e31 : PySem.W.exmOne K (.ref C3) (.ref C1) = some false) (e32 : PySem.W.exmOne K (.ref C3) (.ref C2) = some false) (e41 : PySem.W.exmOne K (.ref C4) (.ref C1) = some false) (e42 : PySem.W.exmOne K (.ref C4) (.ref C2) = some false) (e43 : PySem.W.exmOne K (.ref C4) (.ref C3) = some false) (e51 : PySem.W.exmOne K (.ref C5) (.ref C1) = some false) (e52 : PySem.W.exmOne K (.ref C5) (.ref C2) = some false) (e53 : PySem.W.exmOne K (.ref C5) (.ref C3) = some false) (e54 : PySem.W.exmOne K (.ref C5) (.ref C4) = some false) (e61 : PySem.W.exmOne K (.ref C6) (.ref C1) = some false) (e62 : PySem.W.exmOne K (.ref C6) (.ref C2) = some false) (e63 : PySem.W.exmOne K (.ref C6) (.ref C3) = some false) (e64 : PySem.W.exmOne K (.ref C6) (.ref C4) = some false) (e65 : PySem.W.exmOne K (.ref C6) (.ref C5) = some false) (e71 : PySem.W.exmOne K (.ref C7) (.ref C1) = some false) (e72 : PySem.W.exmOne K (.ref C7) (.ref C2) = some false) (e73 : PySem.W.exmOne K (.ref C7) (.ref C3) = some false) (e74 : PySem.W.exmOne K (.ref C7) (.ref C4) = some false) (e75 : PySem.W.exmOne K (.ref C7) (.ref C5) = some false) (e76 : PySem.W.exmOne K (.ref C7) (.ref C6) = some false) :
    FnOk P w K mg base CX0 (k + 1) f fd ps__law_met (spMet P w K mg base k (CsK C1 C2 C3 C4 C5 C6 C7)) := by
  refine F.ok sc__law_met (fun vs H Q E h => ?_) (fun cdv A outer s H vs Q E hr h => ?_)
  · obtain ⟨f, _, _, _, _, rfl, _⟩ := h
    rfl
  · obtain ⟨v, F0, b, Rr, RX, rfl, c, e, hb, k1, k2⟩ := h
    obtain ⟨a, D, C, Fc, rfl, T, h1, h2, h3⟩ := c
    refine ⟨_, pss_one (ps_try_as_many (i := 1) (tb := fun W => tRet (tTup (tCons (tC (.str "told")) (tCons (fun σ H Q => ∃ f, σ[0]? = some (some (.ref f)) ∧ AskT P w K mg base k 0 f [] H Q (fun cls d H' => W cls d σ H')) tNil)))) rfl rfl sc__law_met.nd rfl rfl takes0
        (fun W pn xe tk _ => pss_one (ps_ret (pe_tup (pa_cons pe_str (pa_cons (pe_ask0 (i := 0) (k := k) (np := 0) hr (Nat.le_refl _) tk rfl (Or.inl rfl)) pa_nil)))))
        (HdsAs.cons ⟨rfl, by decide, .inl R1.g⟩ (fun a oe cls d pn hz hf => pss_one (ps_ret (pe_tup (pa_cons pe_str (pa_cons (pe_xf R1.xf R1.no hz hf (pv 1)) pa_nil)))))
        (HdsAs.cons ⟨rfl, by decide, .inl R2.g⟩ (fun a oe cls d pn hz hf => pss_one (ps_ret (pe_tup (pa_cons pe_str (pa_cons (pe_xf R2.xf R2.no hz hf (pv 1)) pa_nil)))))
        (HdsAs.cons ⟨rfl, by decide, .inl R3.g⟩ (fun a oe cls d pn hz hf => pss_one (ps_ret (pe_tup (pa_cons pe_str (pa_cons (pe_xf R3.xf R3.no hz hf (pv 1)) pa_nil)))))
        (HdsAs.cons ⟨rfl, by decide, .inl R4.g⟩ (fun a oe cls d pn hz hf => pss_one (ps_ret (pe_tup (pa_cons pe_str (pa_cons (pe_xf R4.xf R4.no hz hf (pv 1)) pa_nil)))))
        (HdsAs.cons ⟨rfl, by decide, .inl R5.g⟩ (fun a oe cls d pn hz hf => pss_one (ps_ret (pe_tup (pa_cons pe_str (pa_cons (pe_xf R5.xf R5.no hz hf (pv 1)) pa_nil)))))
        (HdsAs.cons ⟨rfl, by decide, .inl R6.g⟩ (fun a oe cls d pn hz hf => pss_one (ps_ret (pe_tup (pa_cons pe_str (pa_cons (pe_xf R6.xf R6.no hz hf (pv 1)) pa_nil)))))
        (HdsAs.cons ⟨rfl, by decide, .inl R7.g⟩ (fun a oe cls d pn hz hf => pss_one (ps_ret (pe_tup (pa_cons pe_str (pa_cons (pe_xf R7.xf R7.no hz hf (pv 1)) pa_nil))))) .nil)))))))), ?_⟩
    refine ⟨a, rfl, D, C, Fc, F0, fun _ _ R RX => b R RX, [], Rr, RX, T, h1, h2, h3, e, .nil, rfl, hb, ⟨fun v H' F' d g _ r q => ⟨(by show 2 ≤ sizeLine; decide), fun t ht => k1 v d H' F' t g r q ht⟩, fun cls v d fld dx H' F' g hd r q => ?_⟩⟩
    obtain ⟨C', wd, hm, rfl, kk⟩ := k2 cls fld v d H' F' g r q
    simp only [CsK, List.mem_cons, List.not_mem_nil, or_false, Prod.mk.injEq] at hm
    rcases hm with ⟨rfl, rfl, rfl⟩ | ⟨rfl, rfl, rfl⟩ | ⟨rfl, rfl, rfl⟩ | ⟨rfl, rfl, rfl⟩ | ⟨rfl, rfl, rfl⟩ | ⟨rfl, rfl, rfl⟩ | ⟨rfl, rfl, rfl⟩
    · exact ⟨true, e11, fun _ a2 ha2 => by exact ⟨.ref a2, rfl, rfl, rfl, dx, _, v, rfl, hd, by simp [List.lookup], (by show 2 ≤ sizeLine; decide), fun t ht => kk t ht⟩, fun q => nomatch q⟩
    · refine ⟨false, e21, (fun q => nomatch q), fun _ => ?_⟩; exact ⟨true, e22, fun _ a2 ha2 => by exact ⟨.ref a2, rfl, rfl, rfl, dx, _, v, rfl, hd, by simp [List.lookup], (by show 2 ≤ sizeLine; decide), fun t ht => kk t ht⟩, fun q => nomatch q⟩
    · refine ⟨false, e31, (fun q => nomatch q), fun _ => ?_⟩; refine ⟨false, e32, (fun q => nomatch q), fun _ => ?_⟩; exact ⟨true, e33, fun _ a2 ha2 => by exact ⟨.ref a2, rfl, rfl, rfl, dx, _, v, rfl, hd, by simp [List.lookup], (by show 2 ≤ sizeLine; decide), fun t ht => kk t ht⟩, fun q => nomatch q⟩
    · refine ⟨false, e41, (fun q => nomatch q), fun _ => ?_⟩; refine ⟨false, e42, (fun q => nomatch q), fun _ => ?_⟩; refine ⟨false, e43, (fun q => nomatch q), fun _ => ?_⟩; exact ⟨true, e44, fun _ a2 ha2 => by exact ⟨.ref a2, rfl, rfl, rfl, dx, _, v, rfl, hd, by simp [List.lookup], (by show 2 ≤ sizeLine; decide), fun t ht => kk t ht⟩, fun q => nomatch q⟩
    · refine ⟨false, e51, (fun q => nomatch q), fun _ => ?_⟩; refine ⟨false, e52, (fun q => nomatch q), fun _ => ?_⟩; refine ⟨false, e53, (fun q => nomatch q), fun _ => ?_⟩; refine ⟨false, e54, (fun q => nomatch q), fun _ => ?_⟩; exact ⟨true, e55, fun _ a2 ha2 => by exact ⟨.ref a2, rfl, rfl, rfl, dx, _, v, rfl, hd, by simp [List.lookup], (by show 2 ≤ sizeLine; decide), fun t ht => kk t ht⟩, fun q => nomatch q⟩
    · refine ⟨false, e61, (fun q => nomatch q), fun _ => ?_⟩; refine ⟨false, e62, (fun q => nomatch q), fun _ => ?_⟩; refine ⟨false, e63, (fun q => nomatch q), fun _ => ?_⟩; refine ⟨false, e64, (fun q => nomatch q), fun _ => ?_⟩; refine ⟨false, e65, (fun q => nomatch q), fun _ => ?_⟩; exact ⟨true, e66, fun _ a2 ha2 => by exact ⟨.ref a2, rfl, rfl, rfl, dx, _, v, rfl, hd, by simp [List.lookup], (by show 2 ≤ sizeLine; decide), fun t ht => kk t ht⟩, fun q => nomatch q⟩
    · refine ⟨false, e71, (fun q => nomatch q), fun _ => ?_⟩; refine ⟨false, e72, (fun q => nomatch q), fun _ => ?_⟩; refine ⟨false, e73, (fun q => nomatch q), fun _ => ?_⟩; refine ⟨false, e74, (fun q => nomatch q), fun _ => ?_⟩; refine ⟨false, e75, (fun q => nomatch q), fun _ => ?_⟩; refine ⟨false, e76, (fun q => nomatch q), fun _ => ?_⟩; exact ⟨true, e77, fun _ a2 ha2 => by exact ⟨.ref a2, rfl, rfl, rfl, dx, _, v, rfl, hd, by simp [List.lookup], (by show 2 ≤ sizeLine; decide), fun t ht => kk t ht⟩, fun q => nomatch q⟩
theorem very_ok {f c PT fm : Addr} {fd fdm : FuncData} {T : List (Addr × Str)} {Cs : List (Addr × Str × Str)} (F : Fun K "_law_is_very" "_law_is_very" s__law_is_very f fd) (hc : fnCode K f = some (.ref c)) (TB : TabB base mg c PT) (hm : (PT, ("_law_is_very.<locals>.<lambda>" : Str)) ∈ T) (hu : ∀ p ∈ T, p.1 = PT → p.2 = ("_law_is_very.<locals>.<lambda>" : Str))
    (M : FnOk P w K mg base CX0 16 fm fdm ps__law_met (spMet P w K mg base 15 Cs)) (hg : ∀ x ∈ Cs, gd (.str x.2.1) = true) (hmm : mg "_law_met" = some (.ref fm)) (hmk : PySem.W.keepIn K (.ref fm) = true) (hmb : Binds K fdm ps__law_met []) (D__law_same : DefP P w K mg base 15 "_law_same" 2 (S_same 15)) :
    FnOk P w K mg base CX0 17 f fd ps__law_is_very (spVery P w K mg base T 14 Cs) := by
  obtain ⟨fs, fds, pss, GS, hms, hks, hbs⟩ := D__law_same.ex
  refine fn_okC F sc__law_is_very (fun vs H Q E h => ?_) (fun cdv A outer s H vs Q E hcd hr h => ?_)
  · obtain ⟨_, _, _, _, _, _, _, _, rfl, _⟩ := h
    rfl
  rw [hc] at hcd
  cases hcd
  obtain ⟨word, fa, Da, Fa, F0, oba, C0, fld, rfl, hin, Th, hDa, hFa, hF, hT', hob, hT, kk⟩ := h
  have L : LTab (cxOf CX0 P w K mg base N__law_is_very "_law_is_very" (defScope s__law_is_very) f (.ref c) A outer s H E).nox T PT := ⟨⟨c, TB, rfl⟩, hm, hu⟩
  refine ⟨_, pss_cons (ps_set (i := 2) sc__law_is_very.nd rfl (by first | exact Or.inl rfl | exact Or.inr rfl) (pe_lst (pa_cons pe_str pa_nil)))
    (pss_cons (ps_set (i := 3) sc__law_is_very.nd rfl (by first | exact Or.inl rfl | exact Or.inr rfl) (pe_callT M hr (fun _ => rfl) (by rfl) hmm hmk hmb (pa_cons (pe_lam L lE__law_is_very_0) pa_nil)))
    (pss_cons (ps_expr (pe_bm PySem.F.plainAttrs_list PySem.F.slot_list_append PySem.F.type_list_append mt_append (pv 2) (pa_cons pe_str pa_nil)))
    (pss_one (ps_ret (pe_call GS (hr.mono (by decide)) (by rfl) hms hks hbs .nil pass0 (pa_cons (pv 3) (pa_cons (pe_tup (pa_cons (pv 0) (pa_cons (pv 2) pa_nil))) pa_nil))))))), ?_⟩
  have fl0 : ∀ {b : Addr}, H b = none → F0 b = none := fun h => none_of_sub hF h
  refine ⟨(by show 1 ≤ sizeLine; decide), fun l hl => ⟨tabs_upd hT (.inr hl), fun f1 c1 H1 a1 a2 a3 a4 a5 a6 => ?_⟩⟩
  intro G C tl hno
  have hP : ∃ q, (PT, q) ∈ T := ⟨_, hm⟩
  have S1 : LamStep T PT _ H1 f1 (mkLam ("_law_is_very.<locals>.<lambda>") (lamP lam__law_is_very_0) (lamB lam__law_is_very_0) (lamSc lam__law_is_very_0) (envOfC "_law_is_very" (defScope s__law_is_very) s.heap.objs.size f (.ref c)).cells c1) := ⟨a1, a2, a3, a4, a5, a6⟩
  have g0 : Grow (zT T) F0 H F0 (L2.upd H l (.lst [.str "odd"])) := Grow.fresh hF hl
  have g1 := g0.trans (S1.grow hP hT' g0.sub)
  have nlP : ∀ b o, H b = some o → (∃ φ, o = .ext φ) → b ≠ PT := fun b o e x q => by
    obtain ⟨ps, e', _⟩ := hT _ hm
    obtain ⟨φ, rfl⟩ := x
    rw [q] at e
    have e' : H PT = some (.tbl ps) := e'
    rw [e] at e'; cases e'
  have lP : l ≠ PT := fun q => by
    obtain ⟨ps, e', _⟩ := hT _ hm
    have e' : H PT = some (.tbl ps) := e'
    rw [q, e'] at hl; cases hl
  have l1 : H1 l = some (.lst [.str "odd"]) := a1 _ _ lP upd_same
  have fl1 : F0 l = none := fl0 hl
  have eF1 : Ex F0 (L2.upd F0 l (.lst [.str "odd"])) := fun b u e => by rw [upd_ne (ne_of_none e fl1)]; exact e
  have sF1 : Ex (L2.upd F0 l (.lst [.str "odd"])) H1 := fun b u e => by
    by_cases hb : b = l
    · rw [hb] at e ⊢; rw [upd_same] at e; rw [l1]; exact e
    · rw [upd_ne hb] at e; exact g1.sub b u e
  have rodd : Rp (L2.upd F0 l (.lst [.str "odd"])) (.ref l) (.list [.str "odd"]) := .lst upd_same (.one (.str "odd"))
  have hDa1 : Ex Da H1 := fun b u e => by
    have e1 : L2.upd H l (.lst [.str "odd"]) b = some u := by rw [upd_ne (ne_of_none (hDa b u e) hl)]; exact hDa b u e
    exact a1 _ _ (nlP b u (hDa b u e) (Th.ext b u e)) e1
  have th := mk_thunkV (X := (cxOf CX0 P w K mg base N__law_is_very "_law_is_very" (defScope s__law_is_very) f (.ref c) A outer s H E).nox) (k := 14) (js := [1, 2]) (ws := [.ref fa, .ref l]) (Fc := L2.upd F0 l (.lst [.str "odd"])) (Da := Da) (ob := fun _ _ R RX => oba [.ref l] [.list [.str "odd"]] R RX) tl hno a5 a6 lS__law_is_very_0 (fun cl pm ctv us hl => lB__law_is_very_0 _ cl pm ctv _ us hl) lF__law_is_very_0 lE__law_is_very_0 rfl rfl Th.ext hDa1
    (fun A' outer' s' H' E' hr' tk' => ⟨_, pe_ask (i := 0) (k := 14) (np := 1) hr' (Nat.le_refl _) tk' (pa_cons (pv 1) pa_nil) rfl (Or.inr (Or.inr rfl)), fun vs ds R RX F' Q' hl' ho ra eDa eFc eF' out => by
      obtain ⟨Fw, ef⟩ := Th.fn
      have z1 : vs = [] := List.length_eq_zero_iff.mp hl'
      subst z1
      exact ⟨fa, rfl, ⟨Fw, eDa _ _ ef⟩, .ref l, rfl, ⟨Da, [], Fa, F', oba, _, R, RX, Th, eDa, (fun _ q => nomatch q), fun b u e => eFc _ _ (eF1 _ _ (hFa b u e)), eF', .one (rodd.mono eFc), rfl, ho, out⟩⟩⟩)
  have hGC : ∀ x ∈ C, ∃ o, G x = some (CellX x o) := fun x hx => by
    obtain ⟨o, u, e, _⟩ := tl.all x hx
    exact ⟨o, e⟩
  have sP : Ex (L2.upd F0 l (.lst [.str "odd"])) (put H1 G C) := fun b u e => by
    have e1 := sF1 b u e
    have : b ∉ C := fun q => by rw [hno b q] at e1; cases e1
    rw [put_out this]; exact e1
  have nFC : ∀ x ∈ C, L2.upd F0 l (.lst [.str "odd"]) x = none := fun x hx => none_of_sub sF1 (hno x hx)
  refine ⟨.ref f1, _, fun R RX => oba [.ref l] [.list [.str "odd"]] R RX, fun _ => False, fun cls fl v d => cls = .ref C0 ∧ fl = fld ∧ v = .ref l, rfl, ⟨f1, _, C, _, rfl, th.1, th.2.1, th.2.2 _ sF1, Evl.Ex.refl _⟩, sP, hob _ _ _ ⟨rfl, rfl, rfl⟩, fun _ _ _ _ _ _ _ q => q.elim, fun cls fl v d H' F' g r q => ?_⟩
  obtain ⟨rfl, rfl, rfl⟩ := q
  refine ⟨C0, word, hin, rfl, fun t htn => ?_⟩
  have ft : F' t = none := none_of_sub g.sub htn
  obtain ⟨g2, kc⟩ := grow_off (g.trans (Grow.fresh g.sub htn (o := .tup [.str word, .ref l]))) hno hGC nFC fun _ _ => zv_z0
  have tC : t ∉ C := fun q => by
    obtain ⟨o, e⟩ := hGC t q
    have := kc t q
    rw [upd_same, e] at this
    cases this
  refine ⟨kc, ?_⟩
  generalize hH2 : off (L2.upd H' t (.tup [.str word, .ref l])) C = H2 at g2
  have t2 : H2 t = some (.tup [.str word, .ref l]) := by rw [← hH2, off_out tC, upd_same]
  have l2 : H2 l = some (.lst [.str "odd"]) := g2.keep _ _ zv_z0 l1
  have g3 : Grow (zT T) F0 H F0 H2 := g1.trans ⟨fun b o _ e => g2.keep b o zv_z0 e, g2.dom, Evl.Ex.refl _, fun b u e => g2.sub _ _ (g2.ext _ _ (eF1 b u e)), fun _ _ h => .inl h⟩
  have T2 : Tabs T H2 := S1.t.ext fun b u e => g2.keep b u zv_z0 e
  refine ⟨.ref l, rfl, .inl ⟨rfl, _, SqL.of l2⟩, l, _, .str "late", rfl, rfl, l2, (by show 1 < sizeLine; decide), ?_⟩
  have g4 : Grow (zT T) F0 H F0 (L2.upd H2 l (.lst ([.str "odd"] ++ [.str "late"]))) := g3.wroteO hl fl1
  have ht0 : t ≠ l := fun q => by rw [q, l2] at t2; cases t2
  refine ⟨.ref t, rfl, .str word, rfl, .ref l, rfl, (by show 2 ≤ sizeLine; decide), fun p hp => ?_⟩
  generalize hH3 : L2.upd H2 l (.lst ([.str "odd"] ++ [.str "late"])) = H3 at g4 hp ⊢
  have l3 : H3 l = some (.lst [.str "odd", .str "late"]) := by rw [← hH3, upd_same]; rfl
  have t3 : H3 t = some (.tup [.str word, .ref l]) := by rw [← hH3, upd_ne ht0]; exact t2
  have T3 : Tabs T H3 := by rw [← hH3]; exact tabs_upd T2 (.inl ⟨_, l2⟩)
  have g5 : Grow (zT T) F0 H F0 (L2.upd H3 p (.tup [.str word, .ref l])) := g4.trans (Grow.fresh g4.sub hp)
  have hp0 : H p = none := g4.dom _ hp
  have pl : p ≠ l := fun q => by rw [q, l3] at hp; cases hp
  have pt : p ≠ t := fun q => by rw [q, t3] at hp; cases hp
  have ht1 : H t = none := g1.dom _ (by
    have : H' t = none := htn
    cases e : H1 t with
    | none => rfl
    | some u =>
      have h1 : put H1 G C t = some u := by rw [put_out tC]; exact e
      have := g.keep t u zv_z0 h1
      rw [htn] at this; cases this)
  have l5 : L2.upd H3 p (.tup [.str word, .ref l]) l = some (.lst [.str "odd", .str "late"]) := by rw [upd_ne (Ne.symm pl)]; exact l3
  have t5 : L2.upd H3 p (.tup [.str word, .ref l]) t = some (.tup [.str word, .ref l]) := by rw [upd_ne (Ne.symm pt)]; exact t3
  have p5 : L2.upd H3 p (.tup [.str word, .ref l]) p = some (.tup [.str word, .ref l]) := upd_same
  have T5 : Tabs T (L2.upd H3 p (.tup [.str word, .ref l])) := tabs_upd T3 (.inr hp)
  generalize L2.upd H3 p (.tup [.str word, .ref l]) = H5 at g5 l5 t5 p5 T5
  let F5 : Hp := L2.upd (L2.upd (L2.upd F0 l (.lst [.str "odd", .str "late"])) t (.tup [.str word, .ref l])) p (.tup [.str word, .ref l])
  have f5p : F5 p = some (.tup [.str word, .ref l]) := upd_same
  have f5t : F5 t = some (.tup [.str word, .ref l]) := by show L2.upd _ p _ t = _; rw [upd_ne (Ne.symm pt), upd_same]
  have f5l : F5 l = some (.lst [.str "odd", .str "late"]) := by show L2.upd _ p _ l = _; rw [upd_ne (Ne.symm pl), upd_ne (Ne.symm ht0), upd_same]
  have f5o : ∀ b, b ≠ p → b ≠ t → b ≠ l → F5 b = F0 b := fun b h1 h2 h3 => by show L2.upd _ p _ b = _; rw [upd_ne h1, upd_ne h2, upd_ne h3]
  have sF5 : Ex F5 H5 := fun b u e => by
    by_cases h1 : b = p
    · rw [h1] at e ⊢; rw [f5p] at e; rw [p5]; exact e
    by_cases h2 : b = t
    · rw [h2] at e ⊢; rw [f5t] at e; rw [t5]; exact e
    by_cases h3 : b = l
    · rw [h3] at e ⊢; rw [f5l] at e; rw [l5]; exact e
    rw [f5o b h1 h2 h3] at e
    exact g5.sub b u e
  have eF5 : Ex F0 F5 := fun b u e => by
    have h1 : b ≠ p := fun q => by rw [q, fl0 hp0] at e; cases e
    have h2 : b ≠ t := fun q => by rw [q, fl0 ht1] at e; cases e
    have h3 : b ≠ l := fun q => by rw [q, fl1] at e; cases e
    rw [f5o b h1 h2 h3]; exact e
  have r1 : Rp F5 (.ref l) (.list [.str "odd", .str "late"]) := .lst f5l (.cons (.str _) (.one (.str _)))
  have rt : Rp F5 (.ref t) (.tuple [.str word, .list [.str "odd", .str "late"]]) := .tup f5t (.cons (.str _) (.one r1))
  have rp : Rp F5 (.ref p) (.tuple [.str word, .list [.str "odd", .str "late"]]) := .tup f5p (.cons (.str _) (.one r1))
  refine ⟨rfl, F5, _, fun d => d = .bool true, sF5, .cons rt (.one rp), (S_same_at 15 _ _ _).mpr ⟨rfl, (by have hw := hg _ hin; simp [gd, gds] at hw ⊢; exact ⟨hw, by decide +kernel⟩), (by simp [ht, hts]), rfl⟩, fun v H6 F6 d g6 r6 q6 => ?_⟩
  subst q6
  cases r6
  refine kk H6 F6 (Grow.trans (F1 := F5) ⟨g5.keep, g5.dom, eF5, sF5, fun b h1 h2 => .inl ?_⟩ g6.weak) (T5.ext fun b u e => g6.keep b u zv_z0 e)
  rw [f5o b (fun q => h1 (by rw [q]; exact hp0)) (fun q => h1 (by rw [q]; exact ht1)) (fun q => h1 (by rw [q]; exact hl))]
  exact h2
/-- what _law_all_met is handed is no great thing -/
def okM (d : PyData) : Prop := gd d = true ∧ ht d < 15
theorem all_ok (bi : ∀ x ∈ BI, mg x = none) {f fm : Addr} {fd fdm : FuncData} {Cs : List (Addr × Str × Str)} (F : Fun K "_law_all_met" "_law_all_met" s__law_all_met f fd) (M : FnOk P w K mg base CX0 16 fm fdm ps__law_met (spMet P w K mg base 15 Cs)) (hmm : mg "_law_met" = some (.ref fm)) (hmk : PySem.W.keepIn K (.ref fm) = true) (hmb : Binds K fdm ps__law_met []) (D__law_same : DefP P w K mg base 15 "_law_same" 2 (S_same 15)) :
    FnOk P w K mg base CX0 17 f fd ps__law_all_met (spAll P w K mg base 15 okM Cs) := by
  obtain ⟨fs, fds, pss, GS, hms, hks, hbs⟩ := D__law_same.ex
  refine F.ok sc__law_all_met (fun vs H Q E h => ?_) (fun cdv A outer s H vs Q E hr h => ?_)
  · obtain ⟨_, _, _, _, _, _, rfl, _⟩ := h
    rfl
  obtain ⟨l, v, fs', B, F0, m, rfl, hl, hz, eF, cl, rv, ok, hB, kk⟩ := h
  refine ⟨_, pss_one (ps_ret (pe_call GS (hr.mono (by decide)) (by rfl) hms hks hbs .nil pass0 (pa_cons (pe_lc (own := [("ask", 2)]) rfl sc__law_all_met.nd (pi_list (pv 0)) (blkOk_by (show blkC N__law_all_met (defScope s__law_all_met) _ _ = true by decide +kernel))
        (fun _ _ _ _ _ => (jg_name (z := z0) 2 sc__law_all_met.nd rfl (by first | exact Or.inl rfl | exact Or.inr rfl)).pg) (fun _ _ _ _ _ => pts_nil)
        (fun _ _ _ _ _ => pe_call M (hr.mono (by decide)) (by rfl) hmm hmk hmb .nil pass0 (pa_cons (pv 2) pa_nil)) (by intro _; rfl))
      (pa_cons (pe_op op_rep (pe_lst (pa_cons (pv 1) pa_nil)) (pe_callB call_len_seq (by rfl) (bi _ (by decide)) PySem.boot_len (pa_cons (pv 0) pa_nil) (by decide) (by decide) rfl rfl)) pa_nil)))), ?_⟩
  have hlen := Paired.length cl
  refine mets_list (Q := fun x H1 => tCons (tOp rRep (tLst (tCons (tVar 1) tNil)) (tCB (fun xs H Q => ∃ p ys, xs = [V.ref p] ∧ (SqL K H p ys ∨ SqT K H p ys) ∧ Q (V.int (ys.length : Int)) H) (tCons (tVar 0) tNil))) tNil (L2.start N__law_all_met [V.ref l, v]) H1 fun xs H2 => spP 2 (S_same 15) ((x :: xs) ++ []) H2 Q E0) (σ := L2.start N__law_all_met [V.ref l, v]) (i := 2) (j := 0) (F := F0) (B := B) (ms := List.replicate B.length m) rfl hl eF cl (mets_rep hB) (by rw [List.length_replicate]; omega) (by show 2 < 3; decide) fun D acc H1 F1 g1 d0 f0 d1 r1 => ?_
  refine ⟨v, rfl, (by show 1 ≤ sizeLine; decide), fun p hp => ⟨.ref l, rfl, l, fs', rfl, .inl (SqL.of ?_), p, _, _, rfl, rfl, upd_same, ?_, ?_, ?_, fun p2 hp2 => ?_⟩⟩
  · have := g1.keep l _ zv_z0 hl
    rw [upd_ne (ne_of_none this hp)]; exact this
  · have : (0 : Int) ≤ (fs'.length : Int) := by omega
    exact Int.le_trans (by decide) this
  · have : (fs'.length : Int) ≤ 1000 := by omega
    exact Int.lt_of_le_of_lt this (by decide)
  · rw [Int.toNat_natCast]; exact Evl.sz_of (by simp; omega)
  have gB := g1.trans (Grow.fresh (z := z0) (o := .lst [v]) g1.sub hp)
  have gC := gB.trans (Grow.fresh (z := z0) (o := .lst (List.replicate ((fs'.length : Int)).toNat [v]).flatten) gB.sub hp2)
  have dB : L2.upd H1 p (.lst [v]) D = some (.lst acc) := by rw [upd_ne (ne_of_none d1 hp)]; exact d1
  have dC : L2.upd (L2.upd H1 p (.lst [v])) p2 (.lst (List.replicate ((fs'.length : Int)).toNat [v]).flatten) D = some (.lst acc) := by rw [upd_ne (ne_of_none dB hp2)]; exact dB
  have nDp : p2 ≠ D := fun q => by rw [q, dB] at hp2; cases hp2
  have gD := gC.freeze d0 dC f0
  have fp : F1 p2 = none := none_of_sub gB.sub hp2
  have gE := gD.freeze (gB.dom _ hp2) upd_same (by rw [upd_ne nDp]; exact fp)
  have x1 : Ex F1 (L2.upd (L2.upd F1 D (.lst acc)) p2 (.lst (List.replicate ((fs'.length : Int)).toNat [v]).flatten)) := (ex_upd f0).trans (ex_upd (by rw [upd_ne nDp]; exact fp))
  have eN : (fs'.length : Int).toNat = B.length := by rw [Int.toNat_natCast]; exact hlen
  refine ⟨rfl, _, [.list (List.replicate B.length m), .list (List.replicate B.length m)], fun d => d = .bool true, gE.sub, .cons (.lst (by rw [upd_ne (Ne.symm nDp), upd_same]) (r1.mono x1)) (.one (.lst upd_same ?_)), (S_same_at 15 _ _ _).mpr ⟨rfl, by rw [← hlen]; exact ok.1, by rw [← hlen]; exact ok.2, rfl⟩, fun v' H6 F6 d g6 r6 q6 => ?_⟩
  · have r := RpA.rep (.one ((rv.mono g1.ext).mono x1)) (fs'.length : Int).toNat
    rw [show (List.replicate (fs'.length : Int).toNat [m]).flatten = List.replicate B.length m from by rw [eN]; simp] at r
    exact r
  · subst q6
    cases r6
    exact kk H6 F6 (gE.trans g6)
end
end MC
namespace MC
open PySem PySem.Spec PyProof.Rows L2 DD CL LamX NdefX
open Evl (Ex)
abbrev s__law_of_sizes : Stmt := top 65
abbrev N__law_of_sizes : List Str := ["letters", "signs", "found"]
abbrev ps__law_of_sizes : List Str := ["letters", "signs"]
theorem sc__law_of_sizes : FnScope N__law_of_sizes ps__law_of_sizes (defScope s__law_of_sizes) := ⟨rfl, rfl, rfl, by decide +kernel, rfl, by decide +kernel, by decide +kernel⟩
abbrev s__law_of_stands : Stmt := top 66
abbrev N__law_of_stands : List Str := ["stands", "most", "sample", "found"]
abbrev ps__law_of_stands : List Str := ["stands", "most", "sample"]
theorem sc__law_of_stands : FnScope N__law_of_stands ps__law_of_stands (defScope s__law_of_stands) := ⟨rfl, rfl, rfl, by decide +kernel, rfl, by decide +kernel, by decide +kernel⟩
def lam__law_of_sizes_0 : Expr := lamN s__law_of_sizes 0
abbrev lN__law_of_sizes_0 : List Str := ["letters", "signs"]
abbrev lp__law_of_sizes_0 : List Str := []
abbrev lf__law_of_sizes_0 : List Str := ["letters", "signs"]
theorem lS__law_of_sizes_0 : NScope lN__law_of_sizes_0 lp__law_of_sizes_0 lf__law_of_sizes_0 (lamSc lam__law_of_sizes_0) := nscope_by (by decide +kernel)
theorem lF__law_of_sizes_0 : ∀ y ∈ lf__law_of_sizes_0, (y, NameKind.free) ∈ (lamSc lam__law_of_sizes_0).names := ndef_fr (sc := defScope s__law_of_sizes) (by decide +kernel)
theorem lE__law_of_sizes_0 : ∀ y ∈ (lamSc lam__law_of_sizes_0).names, y.2 = .free → (defScope s__law_of_sizes).names.lookup y.1 = some .cell ∨ (defScope s__law_of_sizes).names.lookup y.1 = some .free := ndef_free (fr := lf__law_of_sizes_0) (by decide +kernel)
theorem lB__law_of_sizes_0 (q : Str) (cl : List (Str × Addr)) (pm ctv : Value) (c : Addr) (us : List Value) (hl : us.length = (lp__law_of_sizes_0).length) : bindArgs (PySem.W.kla_fn "<lambda>" q (lamP lam__law_of_sizes_0) (lamB lam__law_of_sizes_0) (lamSc lam__law_of_sizes_0) cl pm (.ref c) ctv) ⟨us, []⟩ = pure ((lp__law_of_sizes_0).zip us) := match us, hl with | [], _ => rfl
def lam__law_of_sizes_1 : Expr := lamN s__law_of_sizes 1
abbrev lN__law_of_sizes_1 : List Str := ["signs", "letters"]
abbrev lp__law_of_sizes_1 : List Str := []
abbrev lf__law_of_sizes_1 : List Str := ["signs", "letters"]
theorem lS__law_of_sizes_1 : NScope lN__law_of_sizes_1 lp__law_of_sizes_1 lf__law_of_sizes_1 (lamSc lam__law_of_sizes_1) := nscope_by (by decide +kernel)
theorem lF__law_of_sizes_1 : ∀ y ∈ lf__law_of_sizes_1, (y, NameKind.free) ∈ (lamSc lam__law_of_sizes_1).names := ndef_fr (sc := defScope s__law_of_sizes) (by decide +kernel)
theorem lE__law_of_sizes_1 : ∀ y ∈ (lamSc lam__law_of_sizes_1).names, y.2 = .free → (defScope s__law_of_sizes).names.lookup y.1 = some .cell ∨ (defScope s__law_of_sizes).names.lookup y.1 = some .free := ndef_free (fr := lf__law_of_sizes_1) (by decide +kernel)
theorem lB__law_of_sizes_1 (q : Str) (cl : List (Str × Addr)) (pm ctv : Value) (c : Addr) (us : List Value) (hl : us.length = (lp__law_of_sizes_1).length) : bindArgs (PySem.W.kla_fn "<lambda>" q (lamP lam__law_of_sizes_1) (lamB lam__law_of_sizes_1) (lamSc lam__law_of_sizes_1) cl pm (.ref c) ctv) ⟨us, []⟩ = pure ((lp__law_of_sizes_1).zip us) := match us, hl with | [], _ => rfl
def lam__law_of_sizes_2 : Expr := lamN s__law_of_sizes 2
abbrev lN__law_of_sizes_2 : List Str := ["letters", "signs"]
abbrev lp__law_of_sizes_2 : List Str := []
abbrev lf__law_of_sizes_2 : List Str := ["letters", "signs"]
theorem lS__law_of_sizes_2 : NScope lN__law_of_sizes_2 lp__law_of_sizes_2 lf__law_of_sizes_2 (lamSc lam__law_of_sizes_2) := nscope_by (by decide +kernel)
theorem lF__law_of_sizes_2 : ∀ y ∈ lf__law_of_sizes_2, (y, NameKind.free) ∈ (lamSc lam__law_of_sizes_2).names := ndef_fr (sc := defScope s__law_of_sizes) (by decide +kernel)
theorem lE__law_of_sizes_2 : ∀ y ∈ (lamSc lam__law_of_sizes_2).names, y.2 = .free → (defScope s__law_of_sizes).names.lookup y.1 = some .cell ∨ (defScope s__law_of_sizes).names.lookup y.1 = some .free := ndef_free (fr := lf__law_of_sizes_2) (by decide +kernel)
theorem lB__law_of_sizes_2 (q : Str) (cl : List (Str × Addr)) (pm ctv : Value) (c : Addr) (us : List Value) (hl : us.length = (lp__law_of_sizes_2).length) : bindArgs (PySem.W.kla_fn "<lambda>" q (lamP lam__law_of_sizes_2) (lamB lam__law_of_sizes_2) (lamSc lam__law_of_sizes_2) cl pm (.ref c) ctv) ⟨us, []⟩ = pure ((lp__law_of_sizes_2).zip us) := match us, hl with | [], _ => rfl
def lam__law_of_sizes_3 : Expr := lamN s__law_of_sizes 3
abbrev lN__law_of_sizes_3 : List Str := ["letters", "signs"]
abbrev lp__law_of_sizes_3 : List Str := []
abbrev lf__law_of_sizes_3 : List Str := ["letters", "signs"]
theorem lS__law_of_sizes_3 : NScope lN__law_of_sizes_3 lp__law_of_sizes_3 lf__law_of_sizes_3 (lamSc lam__law_of_sizes_3) := nscope_by (by decide +kernel)
theorem lF__law_of_sizes_3 : ∀ y ∈ lf__law_of_sizes_3, (y, NameKind.free) ∈ (lamSc lam__law_of_sizes_3).names := ndef_fr (sc := defScope s__law_of_sizes) (by decide +kernel)
theorem lE__law_of_sizes_3 : ∀ y ∈ (lamSc lam__law_of_sizes_3).names, y.2 = .free → (defScope s__law_of_sizes).names.lookup y.1 = some .cell ∨ (defScope s__law_of_sizes).names.lookup y.1 = some .free := ndef_free (fr := lf__law_of_sizes_3) (by decide +kernel)
theorem lB__law_of_sizes_3 (q : Str) (cl : List (Str × Addr)) (pm ctv : Value) (c : Addr) (us : List Value) (hl : us.length = (lp__law_of_sizes_3).length) : bindArgs (PySem.W.kla_fn "<lambda>" q (lamP lam__law_of_sizes_3) (lamB lam__law_of_sizes_3) (lamSc lam__law_of_sizes_3) cl pm (.ref c) ctv) ⟨us, []⟩ = pure ((lp__law_of_sizes_3).zip us) := match us, hl with | [], _ => rfl
def lam__law_of_stands_0 : Expr := lamN s__law_of_stands 0
abbrev lN__law_of_stands_0 : List Str := ["stands", "most", "sample"]
abbrev lp__law_of_stands_0 : List Str := []
abbrev lf__law_of_stands_0 : List Str := ["stands", "most", "sample"]
theorem lS__law_of_stands_0 : NScope lN__law_of_stands_0 lp__law_of_stands_0 lf__law_of_stands_0 (lamSc lam__law_of_stands_0) := nscope_by (by decide +kernel)
theorem lF__law_of_stands_0 : ∀ y ∈ lf__law_of_stands_0, (y, NameKind.free) ∈ (lamSc lam__law_of_stands_0).names := ndef_fr (sc := defScope s__law_of_stands) (by decide +kernel)
theorem lE__law_of_stands_0 : ∀ y ∈ (lamSc lam__law_of_stands_0).names, y.2 = .free → (defScope s__law_of_stands).names.lookup y.1 = some .cell ∨ (defScope s__law_of_stands).names.lookup y.1 = some .free := ndef_free (fr := lf__law_of_stands_0) (by decide +kernel)
theorem lB__law_of_stands_0 (q : Str) (cl : List (Str × Addr)) (pm ctv : Value) (c : Addr) (us : List Value) (hl : us.length = (lp__law_of_stands_0).length) : bindArgs (PySem.W.kla_fn "<lambda>" q (lamP lam__law_of_stands_0) (lamB lam__law_of_stands_0) (lamSc lam__law_of_stands_0) cl pm (.ref c) ctv) ⟨us, []⟩ = pure ((lp__law_of_stands_0).zip us) := match us, hl with | [], _ => rfl
def lam__law_of_stands_1 : Expr := lamN s__law_of_stands 1
abbrev lN__law_of_stands_1 : List Str := ["most", "stands", "sample"]
abbrev lp__law_of_stands_1 : List Str := []
abbrev lf__law_of_stands_1 : List Str := ["most", "stands", "sample"]
theorem lS__law_of_stands_1 : NScope lN__law_of_stands_1 lp__law_of_stands_1 lf__law_of_stands_1 (lamSc lam__law_of_stands_1) := nscope_by (by decide +kernel)
theorem lF__law_of_stands_1 : ∀ y ∈ lf__law_of_stands_1, (y, NameKind.free) ∈ (lamSc lam__law_of_stands_1).names := ndef_fr (sc := defScope s__law_of_stands) (by decide +kernel)
theorem lE__law_of_stands_1 : ∀ y ∈ (lamSc lam__law_of_stands_1).names, y.2 = .free → (defScope s__law_of_stands).names.lookup y.1 = some .cell ∨ (defScope s__law_of_stands).names.lookup y.1 = some .free := ndef_free (fr := lf__law_of_stands_1) (by decide +kernel)
theorem lB__law_of_stands_1 (q : Str) (cl : List (Str × Addr)) (pm ctv : Value) (c : Addr) (us : List Value) (hl : us.length = (lp__law_of_stands_1).length) : bindArgs (PySem.W.kla_fn "<lambda>" q (lamP lam__law_of_stands_1) (lamB lam__law_of_stands_1) (lamSc lam__law_of_stands_1) cl pm (.ref c) ctv) ⟨us, []⟩ = pure ((lp__law_of_stands_1).zip us) := match us, hl with | [], _ => rfl
/-- turned about -/
def gRev : {α : Type} → List α → List α := fun xs => xs.reverse
theorem gRev_vals {zs : List V} {ws : List Value} (h : Vals zs ws) : Vals (gRev zs) (gRev ws) := h.reverse
theorem gRev_rpa {F : Hp} {zs : List V} {ds : List PyData} (h : RpA F zs ds) : RpA F (gRev zs) (gRev ds) := h.reverse
/-- how the closures of a list end -/
def bBad (C : Addr) (fld : Str) (d : PyData) : Beh := fun _ RX => ∀ v, RX (.ref C) fld v d
def cspSizes (CL CS : Addr) : List V → List PyData → List Beh → Prop := fun vs ds B => vs.length = 2 ∧ ∃ d1 d2 C fld d, ds = [d1, d2] ∧ B = List.replicate 4 (bBad C fld d) ∧ ((posI d1 = false ∧ C = CL ∧ fld = "letters" ∧ d = d1) ∨ (posI d1 = true ∧ posI d2 = false ∧ C = CS ∧ fld = "signs" ∧ d = d2))
def cspStands (CT CM CP : Addr) : List V → List PyData → List Beh → Prop := fun vs ds B => vs.length = 3 ∧ ∃ d3 d4 d5 C fld d, ds = [d3, d4, d5] ∧ gd d5 = true ∧ nd d5 = true ∧ ht d5 < 14 ∧ B = List.replicate 2 (bBad C fld d) ∧ ((posI d3 = false ∧ C = CT ∧ fld = "stands" ∧ d = d3) ∨ (posI d3 = true ∧ number d4 = false ∧ C = CM ∧ fld = "most" ∧ d = d4) ∨ (posI d3 = true ∧ number d4 = true ∧ lenOk d5 = true ∧ noneD (kSm 1 1 d5) = true ∧ C = CP ∧ fld = "sample" ∧ d = d5))
theorem posI_one : posI (.int 1) = true := rfl
abbrev X_all5 (CL CS CT CM CP : Addr) : XSp := fun vs ds _ RX => X_bad5 CL CS CT CM CP vs ds RX
abbrev X_agr (CL CS CT CM CP CW : Addr) : XSp := fun vs ds _ RX => ∃ v1 v2 v3 v4 v5 v6 d1 d2 d3 d4 d5 d6, vs = [v1, v2, v3, v4, v5, v6] ∧ ds = [d1, d2, d3, d4, d5, d6] ∧ (X_bad5 CL CS CT CM CP [v1, v2, v3, v4, v5] [d1, d2, d3, d4, d5] RX ∨
      (posI d1 = true ∧ posI d2 = true ∧ posI d3 = true ∧ number d4 = true ∧ lenOk d5 = true ∧ noneD (kSm (intOf d1) (intOf d2) d5) = false ∧ lenOk d6 = true ∧ noneD (keptW d1 d6) = true ∧ RX (.ref CW) "word" v6 d6))
section
variable {P : Program} {w : World} {K : PySem.W.Frag} {mg : Str → Option Value} {base : Heap} {CL CS CR CP CT CM CW : Addr}
theorem sizes_ok {f c PT : Addr} {fd : FuncData} {T : List (Addr × Str)} (F : Fun K "_law_of_sizes" "_law_of_sizes" s__law_of_sizes f fd) (hc : fnCode K f = some (.ref c)) (TB : TabB base mg c PT) (hm : (PT, ("_law_of_sizes.<locals>.<lambda>" : Str)) ∈ T) (hu : ∀ p ∈ T, p.1 = PT → p.2 = ("_law_of_sizes.<locals>.<lambda>" : Str))
    (XD_agreed : DefXS P w K mg base 8 "agreed" s_agreed ps_agreed (X_agr CL CS CT CM CP CW)) (XD_all_fitting : DefXS P w K mg base 8 "all_fitting" s_all_fitting ps_all_fitting (X_all5 CL CS CT CM CP)) (XD_is_sample : DefXS P w K mg base 4 "is_sample" s_is_sample ps_is_sample (X_sizes3 CL CS)) (XD_tree_reader : DefXS P w K mg base 8 "tree_reader" s_tree_reader ps_tree_reader (X_tree CL CS CP)) :
    FnOk P w K mg base CX0 16 f fd ps__law_of_sizes (spC P w K mg base T 15 2 (cspSizes CL CS)) := by
  refine fn_told F sc__law_of_sizes (fun vs H Q E h => h.1) (fun cdv A outer s H vs Q E hcd hr h => ?_)
  rw [hc] at hcd
  cases hcd
  obtain ⟨hl, F0, ds, B, eF, ra, hcsp, hT, hF, kk⟩ := h
  obtain ⟨hv2, d1, d2, Cx, fldx, dx, rfl, rfl, hcase⟩ := hcsp
  obtain ⟨v1, v2, rfl⟩ := ex2 hv2
  obtain ⟨r1, r2⟩ : Rp F0 v1 d1 ∧ Rp F0 v2 d2 := by
    cases ra with
    | cons a b => cases b with
      | cons c e => exact ⟨a, c⟩
  have hB2 : ∀ (x y : V) {RX : Value → Str → V → PyData → Prop}, (∀ v, RX (.ref Cx) fldx v dx) → (posI d1 = false ∧ RX (.ref CL) "letters" x d1) ∨ (posI d1 = true ∧ posI d2 = false ∧ RX (.ref CS) "signs" y d2) := fun x y RX ho => by
    rcases hcase with ⟨p1, rfl, rfl, rfl⟩ | ⟨p1, p2, rfl, rfl, rfl⟩
    · exact .inl ⟨p1, ho x⟩
    · exact .inr ⟨p1, p2, ho y⟩
  have hB3 : ∀ (x y : V) (Z : Prop) {RX : Value → Str → V → PyData → Prop}, (∀ v, RX (.ref Cx) fldx v dx) → (posI d1 = false ∧ RX (.ref CL) "letters" x d1) ∨ (posI d1 = true ∧ posI d2 = false ∧ RX (.ref CS) "signs" y d2) ∨ Z := fun x y Z RX ho => (hB2 x y ho).elim .inl fun h => .inr (.inl h)
  have hB5 : ∀ (x y : V) (Z1 Z2 Z3 : Prop) {RX : Value → Str → V → PyData → Prop}, (∀ v, RX (.ref Cx) fldx v dx) → (posI d1 = false ∧ RX (.ref CL) "letters" x d1) ∨ (posI d1 = true ∧ posI d2 = false ∧ RX (.ref CS) "signs" y d2) ∨ Z1 ∨ Z2 ∨ Z3 := fun x y Z1 Z2 Z3 RX ho => (hB2 x y ho).elim .inl fun h => .inr (.inl h)
  have XK_tree_reader := DefXS.kw (X := (cxOf CX0 P w K mg base N__law_of_sizes "_law_of_sizes" (defScope s__law_of_sizes) f (.ref c) A outer s H E).nox) (st := s_tree_reader) XD_tree_reader ["sample", "signs", "letters"] gRev (fun _ _ _ _ _ _ ws h => match ws, h with | [a, b, c], _ => rfl) (fun ws h => by rw [gRev, List.length_reverse]; exact h) gRev_vals gRev_rpa
  have L : LTab (cxOf CX0 P w K mg base N__law_of_sizes "_law_of_sizes" (defScope s__law_of_sizes) f (.ref c) A outer s H E).nox T PT := ⟨⟨c, TB, rfl⟩, hm, hu⟩
  refine ⟨_, pr_cons (ps_set (i := 2) sc__law_of_sizes.nd rfl (by first | exact Or.inl rfl | exact Or.inr rfl) (pe_lst (pa_cons (pe_lam L lE__law_of_sizes_0) pa_nil)))
    (pr_cons (ps_expr (pe_bm PySem.F.plainAttrs_list PySem.F.slot_list_append PySem.F.type_list_append mt_append (pv 2) (pa_cons (pe_lam L lE__law_of_sizes_1) pa_nil)))
    (pr_cons (ps_expr (pe_bm PySem.F.plainAttrs_list PySem.F.slot_list_append PySem.F.type_list_append mt_append (pv 2) (pa_cons (pe_lam L lE__law_of_sizes_2) pa_nil)))
    (pr_ret (pe_op op_cat (pv 2) (pe_lst (pa_cons (pe_lam L lE__law_of_sizes_3) pa_nil)))))), ?_⟩
  have hP : ∃ q, (PT, q) ∈ T := ⟨_, hm⟩
  let cells : List (Str × Addr) := (envOfC "_law_of_sizes" (defScope s__law_of_sizes) s.heap.objs.size f (.ref c)).cells
  refine ⟨hT, fun f1 c1 H1 a1 a2 a3 a4 a5 a6 => ⟨(by show 1 ≤ sizeLine; decide), fun l hl1 => ?_⟩⟩
  have M1 := Made.one (F := mkLam ("_law_of_sizes.<locals>.<lambda>") (lamP lam__law_of_sizes_0) (lamB lam__law_of_sizes_0) (lamSc lam__law_of_sizes_0) cells c1) ⟨a1, a2, a3, a4, a5, a6⟩ hP hF eF hl1
  clear a1 a2 a3 a4 a5 a6
  refine ⟨.ref l, rfl, .inl ⟨rfl, _, SqL.of M1.hl⟩, M1.t, fun f2 c2 H2 a1 a2 a3 a4 a5 a6 => ?_⟩
  have S2 : LamStep T PT _ H2 f2 (mkLam ("_law_of_sizes.<locals>.<lambda>") (lamP lam__law_of_sizes_1) (lamB lam__law_of_sizes_1) (lamSc lam__law_of_sizes_1) cells c2) := ⟨a1, a2, a3, a4, a5, a6⟩
  refine ⟨l, _, .ref f2, rfl, rfl, M1.at_ S2 hP, by rw [List.length_map]; exact Evl.sz_lt (by simp), ?_⟩
  have M2 := M1.app S2 hP hF
  clear S2 a1 a2 a3 a4 a5 a6
  refine ⟨.ref l, rfl, .inl ⟨rfl, _, SqL.of M2.hl⟩, M2.t, fun f3 c3 H3 a1 a2 a3 a4 a5 a6 => ?_⟩
  have S3 : LamStep T PT _ H3 f3 (mkLam ("_law_of_sizes.<locals>.<lambda>") (lamP lam__law_of_sizes_2) (lamB lam__law_of_sizes_2) (lamSc lam__law_of_sizes_2) cells c3) := ⟨a1, a2, a3, a4, a5, a6⟩
  refine ⟨l, _, .ref f3, rfl, rfl, M2.at_ S3 hP, by rw [List.length_map]; exact Evl.sz_lt (by simp), ?_⟩
  have M3 := M2.app S3 hP hF
  clear S3 a1 a2 a3 a4 a5 a6
  refine ⟨.ref l, rfl, M3.t, fun f4 c4 H4 a1 a2 a3 a4 a5 a6 => ⟨(by show 1 ≤ sizeLine; decide), fun p1 hp1 => ?_⟩⟩
  have S4 : LamStep T PT _ H4 f4 (mkLam ("_law_of_sizes.<locals>.<lambda>") (lamP lam__law_of_sizes_3) (lamB lam__law_of_sizes_3) (lamSc lam__law_of_sizes_3) cells c4) := ⟨a1, a2, a3, a4, a5, a6⟩
  refine ⟨l, p1, _, _, rfl, rfl, by rw [upd_ne (ne_of_none (M3.at_ S4 hP) hp1)]; exact M3.at_ S4 hP, upd_same, by rw [List.length_map]; exact Evl.sz_of (by simp), fun p2 hp2 => ?_⟩
  have M4 := (M3.cat S4 hP hF hp1 hp2).2
  clear S4 a1 a2 a3 a4 a5 a6
  intro G C tl hno
  obtain ⟨t1, t2, t3⟩ := M4.told (G := G) hno (fun c hc e => by
    obtain ⟨o, u, e', _⟩ := tl.all c hc
    rw [e] at e'; cases e')
  refine kk p2 _ _ t1 t2 M4.l0 t3 ?_
  have th0 := mk_thunk (X := (cxOf CX0 P w K mg base N__law_of_sizes "_law_of_sizes" (defScope s__law_of_sizes) f (.ref c) A outer s H E).nox) (k := 14) (js := [0, 1]) (ws := [v1, v2]) (es := [d1, d2]) (Fc := F0) (ob := fun _ _ R RX => bBad Cx fldx dx R RX) tl hno (M4.fns (f1, mkLam ("_law_of_sizes.<locals>.<lambda>") (lamP lam__law_of_sizes_0) (lamB lam__law_of_sizes_0) (lamSc lam__law_of_sizes_0) cells c1) (by simp)).1 (M4.fns (f1, mkLam ("_law_of_sizes.<locals>.<lambda>") (lamP lam__law_of_sizes_0) (lamB lam__law_of_sizes_0) (lamSc lam__law_of_sizes_0) cells c1) (by simp)).2 lS__law_of_sizes_0 (fun cl pm ctv us hl => lB__law_of_sizes_0 _ cl pm ctv _ us hl) lF__law_of_sizes_0 lE__law_of_sizes_0 rfl rfl (.cons r1 (.cons r2 .nil))
    (fun A' outer' s' H' E' hr' tk' vs ds R RX e1 e2 ho => .inl ⟨_, _, (jx_f XD_is_sample.dx hr' tk' (jax_var 0 (jax_var 1 (jax_cons (je_non) jax_nil)))), by
      have z1 : vs = [] := List.length_eq_zero_iff.mp e1
      have z2 : ds = [] := List.length_eq_zero_iff.mp e2
      subst z1 z2
      simp [startV]
      refine fun vs hv hx => ?_
      obtain ⟨x, y, z, rfl⟩ := ex3 hv
      exact ⟨x, y, z, _, _, _, rfl, rfl, hB2 _ _ ho⟩⟩)
  have th1 := mk_thunk (X := (cxOf CX0 P w K mg base N__law_of_sizes "_law_of_sizes" (defScope s__law_of_sizes) f (.ref c) A outer s H E).nox) (k := 14) (js := [1, 0]) (ws := [v2, v1]) (es := [d2, d1]) (Fc := F0) (ob := fun _ _ R RX => bBad Cx fldx dx R RX) tl hno (M4.fns (f2, mkLam ("_law_of_sizes.<locals>.<lambda>") (lamP lam__law_of_sizes_1) (lamB lam__law_of_sizes_1) (lamSc lam__law_of_sizes_1) cells c2) (by simp)).1 (M4.fns (f2, mkLam ("_law_of_sizes.<locals>.<lambda>") (lamP lam__law_of_sizes_1) (lamB lam__law_of_sizes_1) (lamSc lam__law_of_sizes_1) cells c2) (by simp)).2 lS__law_of_sizes_1 (fun cl pm ctv us hl => lB__law_of_sizes_1 _ cl pm ctv _ us hl) lF__law_of_sizes_1 lE__law_of_sizes_1 rfl rfl (.cons r2 (.cons r1 .nil))
    (fun A' outer' s' H' E' hr' tk' vs ds R RX e1 e2 ho => .inl ⟨_, _, (jx_kw XK_tree_reader hr' tk' (jk_cons je_non (jk_cons (je_var 0) (jk_cons (je_var 1) jk_nil)))), by
      have z1 : vs = [] := List.length_eq_zero_iff.mp e1
      have z2 : ds = [] := List.length_eq_zero_iff.mp e2
      subst z1 z2
      simp [startV]
      refine ⟨rfl, fun vs hv => ?_⟩
      obtain ⟨x, y, z, rfl⟩ := ex3 (vs := vs) hv
      exact ⟨x, y, z, _, _, _, rfl, rfl, hB3 _ _ _ ho⟩⟩)
  have th2 := mk_thunk (X := (cxOf CX0 P w K mg base N__law_of_sizes "_law_of_sizes" (defScope s__law_of_sizes) f (.ref c) A outer s H E).nox) (k := 14) (js := [0, 1]) (ws := [v1, v2]) (es := [d1, d2]) (Fc := F0) (ob := fun _ _ R RX => bBad Cx fldx dx R RX) tl hno (M4.fns (f3, mkLam ("_law_of_sizes.<locals>.<lambda>") (lamP lam__law_of_sizes_2) (lamB lam__law_of_sizes_2) (lamSc lam__law_of_sizes_2) cells c3) (by simp)).1 (M4.fns (f3, mkLam ("_law_of_sizes.<locals>.<lambda>") (lamP lam__law_of_sizes_2) (lamB lam__law_of_sizes_2) (lamSc lam__law_of_sizes_2) cells c3) (by simp)).2 lS__law_of_sizes_2 (fun cl pm ctv us hl => lB__law_of_sizes_2 _ cl pm ctv _ us hl) lF__law_of_sizes_2 lE__law_of_sizes_2 rfl rfl (.cons r1 (.cons r2 .nil))
    (fun A' outer' s' H' E' hr' tk' vs ds R RX e1 e2 ho => .inl ⟨_, _, (jx_f XD_all_fitting.dx hr' tk' (jax_var 0 (jax_var 1 (jax_cons (je_non) (jax_cons (je_non) (jax_cons (je_non) jax_nil)))))), by
      have z1 : vs = [] := List.length_eq_zero_iff.mp e1
      have z2 : ds = [] := List.length_eq_zero_iff.mp e2
      subst z1 z2
      simp [startV]
      refine fun vs hv hx => ?_
      obtain ⟨x, y, z, a, b, rfl⟩ := ex5 hv
      exact ⟨x, y, z, a, b, _, _, _, _, _, rfl, rfl, hB5 _ _ _ _ _ ho⟩⟩)
  have th3 := mk_thunk (X := (cxOf CX0 P w K mg base N__law_of_sizes "_law_of_sizes" (defScope s__law_of_sizes) f (.ref c) A outer s H E).nox) (k := 14) (js := [0, 1]) (ws := [v1, v2]) (es := [d1, d2]) (Fc := F0) (ob := fun _ _ R RX => bBad Cx fldx dx R RX) tl hno (M4.fns (f4, mkLam ("_law_of_sizes.<locals>.<lambda>") (lamP lam__law_of_sizes_3) (lamB lam__law_of_sizes_3) (lamSc lam__law_of_sizes_3) cells c4) (by simp)).1 (M4.fns (f4, mkLam ("_law_of_sizes.<locals>.<lambda>") (lamP lam__law_of_sizes_3) (lamB lam__law_of_sizes_3) (lamSc lam__law_of_sizes_3) cells c4) (by simp)).2 lS__law_of_sizes_3 (fun cl pm ctv us hl => lB__law_of_sizes_3 _ cl pm ctv _ us hl) lF__law_of_sizes_3 lE__law_of_sizes_3 rfl rfl (.cons r1 (.cons r2 .nil))
    (fun A' outer' s' H' E' hr' tk' vs ds R RX e1 e2 ho => .inl ⟨_, _, (jx_f XD_agreed.dx hr' tk' (jax_var 0 (jax_var 1 (jax_cons (je_non) (jax_cons (je_non) (jax_cons (je_non) (jax_cons (je_non) jax_nil))))))), by
      have z1 : vs = [] := List.length_eq_zero_iff.mp e1
      have z2 : ds = [] := List.length_eq_zero_iff.mp e2
      subst z1 z2
      simp [startV]
      refine fun vs hv hx => ?_
      obtain ⟨x, y, z, a, b, c, rfl⟩ := ex6 hv
      exact ⟨x, y, z, a, b, c, _, _, _, _, _, _, rfl, rfl, .inl ⟨x, y, z, a, b, _, _, _, _, _, rfl, rfl, hB5 _ _ _ _ _ ho⟩⟩⟩)
  exact .cons ⟨f1, _, C, F0, rfl, th0.1, th0.2.1, th0.2.2 F0 M4.g.sub, Evl.Ex.refl F0⟩ (.cons ⟨f2, _, C, F0, rfl, th1.1, th1.2.1, th1.2.2 F0 M4.g.sub, Evl.Ex.refl F0⟩ (.cons ⟨f3, _, C, F0, rfl, th2.1, th2.2.1, th2.2.2 F0 M4.g.sub, Evl.Ex.refl F0⟩ (.cons ⟨f4, _, C, F0, rfl, th3.1, th3.2.1, th3.2.2 F0 M4.g.sub, Evl.Ex.refl F0⟩ .nil)))
theorem stands_ok {f c PT : Addr} {fd : FuncData} {T : List (Addr × Str)} (F : Fun K "_law_of_stands" "_law_of_stands" s__law_of_stands f fd) (hc : fnCode K f = some (.ref c)) (TB : TabB base mg c PT) (hm : (PT, ("_law_of_stands.<locals>.<lambda>" : Str)) ∈ T) (hu : ∀ p ∈ T, p.1 = PT → p.2 = ("_law_of_stands.<locals>.<lambda>" : Str))
    (XD_agreed : DefXS P w K mg base 8 "agreed" s_agreed ps_agreed (X_agr CL CS CT CM CP CW)) (XD_all_fitting : DefXS P w K mg base 8 "all_fitting" s_all_fitting ps_all_fitting (X_all5 CL CS CT CM CP)) (D__law_copied : DefP P w K mg base 14 "_law_copied" 1 (S_copied 14)) :
    FnOk P w K mg base CX0 16 f fd ps__law_of_stands (spC P w K mg base T 15 3 (cspStands CT CM CP)) := by
  refine fn_told F sc__law_of_stands (fun vs H Q E h => h.1) (fun cdv A outer s H vs Q E hcd hr h => ?_)
  rw [hc] at hcd
  cases hcd
  obtain ⟨hl, F0, ds, B, eF, ra, hcsp, hT, hF, kk⟩ := h
  obtain ⟨hv3, d1, d2, d3, Cx, fldx, dx, rfl, g1, g2, g3, rfl, hcase⟩ := hcsp
  obtain ⟨v1, v2, v3, rfl⟩ := ex3 hv3
  obtain ⟨r1, r2, r3⟩ : Rp F0 v1 d1 ∧ Rp F0 v2 d2 ∧ Rp F0 v3 d3 := by
    cases ra with
    | cons a b => cases b with
      | cons c e => cases e with
        | cons g h => exact ⟨a, c, g⟩
  have hB : ∀ (x y z : V) {RX : Value → Str → V → PyData → Prop}, (∀ v, RX (.ref Cx) fldx v dx) → ∀ {Z1 Z2 : Prop}, Z1 ∨ Z2 ∨ (posI (.int 1) = true ∧ posI (.int 1) = true ∧ posI d1 = false ∧ RX (.ref CT) "stands" x d1) ∨ (posI (.int 1) = true ∧ posI (.int 1) = true ∧ posI d1 = true ∧ number d2 = false ∧ RX (.ref CM) "most" y d2) ∨ (posI (.int 1) = true ∧ posI (.int 1) = true ∧ posI d1 = true ∧ number d2 = true ∧ lenOk d3 = true ∧ noneD (kSm (intOf (.int 1)) (intOf (.int 1)) d3) = true ∧ RX (.ref CP) "sample" z d3) := fun x y z RX ho Z1 Z2 => by
    rcases hcase with ⟨p1, rfl, rfl, rfl⟩ | ⟨p1, p2, rfl, rfl, rfl⟩ | ⟨p1, p2, p3, p4, rfl, rfl, rfl⟩
    · exact .inr (.inr (.inl ⟨rfl, rfl, p1, ho x⟩))
    · exact .inr (.inr (.inr (.inl ⟨rfl, rfl, p1, p2, ho y⟩)))
    · exact .inr (.inr (.inr (.inr ⟨rfl, rfl, p1, p2, p3, p4, ho z⟩)))
  have XK_agreed := DefXS.kw (X := (cxOf CX0 P w K mg base N__law_of_stands "_law_of_stands" (defScope s__law_of_stands) f (.ref c) A outer s H E).nox) (st := s_agreed) XD_agreed ["word", "sample", "most", "stands", "signs", "letters"] gRev (fun _ _ _ _ _ _ ws h => match ws, h with | [a, b, c, d, e, f], _ => rfl) (fun ws h => by rw [gRev, List.length_reverse]; exact h) gRev_vals gRev_rpa
  have L : LTab (cxOf CX0 P w K mg base N__law_of_stands "_law_of_stands" (defScope s__law_of_stands) f (.ref c) A outer s H E).nox T PT := ⟨⟨c, TB, rfl⟩, hm, hu⟩
  refine ⟨_, pr_cons (ps_set (i := 3) sc__law_of_stands.nd rfl (by first | exact Or.inl rfl | exact Or.inr rfl) (pe_lst (pa_cons (pe_lam L lE__law_of_stands_0) pa_nil)))
    (pr_ret (pe_op op_cat (pv 3) (pe_lst (pa_cons (pe_lam L lE__law_of_stands_1) pa_nil)))), ?_⟩
  have hP : ∃ q, (PT, q) ∈ T := ⟨_, hm⟩
  let cells : List (Str × Addr) := (envOfC "_law_of_stands" (defScope s__law_of_stands) s.heap.objs.size f (.ref c)).cells
  refine ⟨hT, fun f1 c1 H1 a1 a2 a3 a4 a5 a6 => ⟨(by show 1 ≤ sizeLine; decide), fun l hl1 => ?_⟩⟩
  have M1 := Made.one (F := mkLam ("_law_of_stands.<locals>.<lambda>") (lamP lam__law_of_stands_0) (lamB lam__law_of_stands_0) (lamSc lam__law_of_stands_0) cells c1) ⟨a1, a2, a3, a4, a5, a6⟩ hP hF eF hl1
  clear a1 a2 a3 a4 a5 a6
  refine ⟨.ref l, rfl, M1.t, fun f2 c2 H2 a1 a2 a3 a4 a5 a6 => ⟨(by show 1 ≤ sizeLine; decide), fun p1 hp1 => ?_⟩⟩
  have S2 : LamStep T PT _ H2 f2 (mkLam ("_law_of_stands.<locals>.<lambda>") (lamP lam__law_of_stands_1) (lamB lam__law_of_stands_1) (lamSc lam__law_of_stands_1) cells c2) := ⟨a1, a2, a3, a4, a5, a6⟩
  refine ⟨l, p1, _, _, rfl, rfl, by rw [upd_ne (ne_of_none (M1.at_ S2 hP) hp1)]; exact M1.at_ S2 hP, upd_same, by rw [List.length_map]; exact Evl.sz_of (by simp), fun p2 hp2 => ?_⟩
  have M2 := (M1.cat S2 hP hF hp1 hp2).2
  clear S2 a1 a2 a3 a4 a5 a6
  intro G C tl hno
  obtain ⟨t1, t2, t3⟩ := M2.told (G := G) hno (fun c hc e => by
    obtain ⟨o, u, e', _⟩ := tl.all c hc
    rw [e] at e'; cases e')
  refine kk p2 _ _ t1 t2 M2.l0 t3 ?_
  have th0 := mk_thunk (X := (cxOf CX0 P w K mg base N__law_of_stands "_law_of_stands" (defScope s__law_of_stands) f (.ref c) A outer s H E).nox) (k := 14) (js := [0, 1, 2]) (ws := [v1, v2, v3]) (es := [d1, d2, d3]) (Fc := F0) (ob := fun _ _ R RX => bBad Cx fldx dx R RX) tl hno (M2.fns (f1, mkLam ("_law_of_stands.<locals>.<lambda>") (lamP lam__law_of_stands_0) (lamB lam__law_of_stands_0) (lamSc lam__law_of_stands_0) cells c1) (by simp)).1 (M2.fns (f1, mkLam ("_law_of_stands.<locals>.<lambda>") (lamP lam__law_of_stands_0) (lamB lam__law_of_stands_0) (lamSc lam__law_of_stands_0) cells c1) (by simp)).2 lS__law_of_stands_0 (fun cl pm ctv us hl => lB__law_of_stands_0 _ cl pm ctv _ us hl) lF__law_of_stands_0 lE__law_of_stands_0 rfl rfl (.cons r1 (.cons r2 (.cons r3 .nil)))
    (fun A' outer' s' H' E' hr' tk' vs ds R RX e1 e2 ho => .inl ⟨_, _, (jx_f XD_all_fitting.dx hr' tk' (jax_cons (je_int) (jax_cons (je_int) (jax_var 0 (jax_var 1 (jax_var 2 jax_nil)))))), by
      have z1 : vs = [] := List.length_eq_zero_iff.mp e1
      have z2 : ds = [] := List.length_eq_zero_iff.mp e2
      subst z1 z2
      simp [startV]
      refine fun vs hv hx => ?_
      obtain ⟨x, y, z, a, b, rfl⟩ := ex5 hv
      exact ⟨x, y, z, a, b, _, _, _, _, _, rfl, rfl, hB _ _ _ ho⟩⟩)
  have th1 := mk_thunk (X := (cxOf CX0 P w K mg base N__law_of_stands "_law_of_stands" (defScope s__law_of_stands) f (.ref c) A outer s H E).nox) (k := 14) (js := [1, 0, 2]) (ws := [v2, v1, v3]) (es := [d2, d1, d3]) (Fc := F0) (ob := fun _ _ R RX => bBad Cx fldx dx R RX) tl hno (M2.fns (f2, mkLam ("_law_of_stands.<locals>.<lambda>") (lamP lam__law_of_stands_1) (lamB lam__law_of_stands_1) (lamSc lam__law_of_stands_1) cells c2) (by simp)).1 (M2.fns (f2, mkLam ("_law_of_stands.<locals>.<lambda>") (lamP lam__law_of_stands_1) (lamB lam__law_of_stands_1) (lamSc lam__law_of_stands_1) cells c2) (by simp)).2 lS__law_of_stands_1 (fun cl pm ctv us hl => lB__law_of_stands_1 _ cl pm ctv _ us hl) lF__law_of_stands_1 lE__law_of_stands_1 rfl rfl (.cons r2 (.cons r1 (.cons r3 .nil)))
    (fun A' outer' s' H' E' hr' tk' vs ds R RX e1 e2 ho => .inl ⟨_, _, (jx_kw XK_agreed hr' tk' (jk_cons je_non (jk_cons (je_f D__law_copied hr' (ja_cons (je_var 2) ja_nil)) (jk_cons (je_var 0) (jk_cons (je_var 1) (jk_cons je_int (jk_cons je_int jk_nil))))))), by
      have z1 : vs = [] := List.length_eq_zero_iff.mp e1
      have z2 : ds = [] := List.length_eq_zero_iff.mp e2
      subst z1 z2
      simp [startV, g1, g2, g3]
      refine ⟨rfl, fun vs hv => ?_⟩
      obtain ⟨x, y, z, a, b, c, rfl⟩ := ex6 (vs := vs) hv
      exact ⟨x, y, z, a, b, c, _, _, _, _, _, _, rfl, rfl, .inl ⟨x, y, z, a, b, _, _, _, _, _, rfl, rfl, hB _ _ _ ho⟩⟩⟩)
  exact .cons ⟨f1, _, C, F0, rfl, th0.1, th0.2.1, th0.2.2 F0 M2.g.sub, Evl.Ex.refl F0⟩ (.cons ⟨f2, _, C, F0, rfl, th1.1, th1.2.1, th1.2.2 F0 M2.g.sub, Evl.Ex.refl F0⟩ .nil)
end
end MC
namespace MC
open PySem PySem.Spec PyProof.Rows L2 DD CL OT LamX NdefX
open Evl (Ex)
abbrev s_law : Stmt := top 67
abbrev N_law : List Str := ["script", "stream", "reader", "odd", "asks", "turn", "word", "ask"]
abbrev ps_law : List Str := ["script"]
theorem sc_law : FnScope N_law ps_law (defScope s_law) := ⟨rfl, rfl, rfl, by decide +kernel, rfl, by decide +kernel, by decide +kernel⟩
abbrev s__law_w_odd_word : Stmt := top 62
abbrev N__law_w_odd_word : List Str := ["stream", "letters"]
abbrev ps__law_w_odd_word : List Str := ["stream", "letters"]
theorem sc__law_w_odd_word : FnScope N__law_w_odd_word ps__law_w_odd_word (defScope s__law_w_odd_word) := ⟨rfl, rfl, rfl, by decide +kernel, rfl, by decide +kernel, by decide +kernel⟩
def lam_law_0 : Expr := lamN s_law 0
abbrev lN_law_0 : List Str := ["odd"]
abbrev lp_law_0 : List Str := []
abbrev lf_law_0 : List Str := ["odd"]
theorem lS_law_0 : NScope lN_law_0 lp_law_0 lf_law_0 (lamSc lam_law_0) := nscope_by (by decide +kernel)
theorem lF_law_0 : ∀ y ∈ lf_law_0, (y, NameKind.free) ∈ (lamSc lam_law_0).names := ndef_fr (sc := defScope s_law) (by decide +kernel)
theorem lE_law_0 : ∀ y ∈ (lamSc lam_law_0).names, y.2 = .free → (defScope s_law).names.lookup y.1 = some .cell ∨ (defScope s_law).names.lookup y.1 = some .free := ndef_free (fr := lf_law_0) (by decide +kernel)
theorem lB_law_0 (q : Str) (cl : List (Str × Addr)) (pm ctv : Value) (c : Addr) (us : List Value) (hl : us.length = (lp_law_0).length) : bindArgs (PySem.W.kla_fn "<lambda>" q (lamP lam_law_0) (lamB lam_law_0) (lamSc lam_law_0) cl pm (.ref c) ctv) ⟨us, []⟩ = pure ((lp_law_0).zip us) := match us, hl with | [], _ => rfl
def lam_law_1 : Expr := lamN s_law 1
abbrev lN_law_1 : List Str := ["reader", "odd"]
abbrev lp_law_1 : List Str := []
abbrev lf_law_1 : List Str := ["reader", "odd"]
theorem lS_law_1 : NScope lN_law_1 lp_law_1 lf_law_1 (lamSc lam_law_1) := nscope_by (by decide +kernel)
theorem lF_law_1 : ∀ y ∈ lf_law_1, (y, NameKind.free) ∈ (lamSc lam_law_1).names := ndef_fr (sc := defScope s_law) (by decide +kernel)
theorem lE_law_1 : ∀ y ∈ (lamSc lam_law_1).names, y.2 = .free → (defScope s_law).names.lookup y.1 = some .cell ∨ (defScope s_law).names.lookup y.1 = some .free := ndef_free (fr := lf_law_1) (by decide +kernel)
theorem lB_law_1 (q : Str) (cl : List (Str × Addr)) (pm ctv : Value) (c : Addr) (us : List Value) (hl : us.length = (lp_law_1).length) : bindArgs (PySem.W.kla_fn "<lambda>" q (lamP lam_law_1) (lamB lam_law_1) (lamSc lam_law_1) cl pm (.ref c) ctv) ⟨us, []⟩ = pure ((lp_law_1).zip us) := match us, hl with | [], _ => rfl
def lam_law_2 : Expr := lamN s_law 2
abbrev lN_law_2 : List Str := ["odd"]
abbrev lp_law_2 : List Str := []
abbrev lf_law_2 : List Str := ["odd"]
theorem lS_law_2 : NScope lN_law_2 lp_law_2 lf_law_2 (lamSc lam_law_2) := nscope_by (by decide +kernel)
theorem lF_law_2 : ∀ y ∈ lf_law_2, (y, NameKind.free) ∈ (lamSc lam_law_2).names := ndef_fr (sc := defScope s_law) (by decide +kernel)
theorem lE_law_2 : ∀ y ∈ (lamSc lam_law_2).names, y.2 = .free → (defScope s_law).names.lookup y.1 = some .cell ∨ (defScope s_law).names.lookup y.1 = some .free := ndef_free (fr := lf_law_2) (by decide +kernel)
theorem lB_law_2 (q : Str) (cl : List (Str × Addr)) (pm ctv : Value) (c : Addr) (us : List Value) (hl : us.length = (lp_law_2).length) : bindArgs (PySem.W.kla_fn "<lambda>" q (lamP lam_law_2) (lamB lam_law_2) (lamSc lam_law_2) cl pm (.ref c) ctv) ⟨us, []⟩ = pure ((lp_law_2).zip us) := match us, hl with | [], _ => rfl
def lam_law_3 : Expr := lamN s_law 3
abbrev lN_law_3 : List Str := ["odd"]
abbrev lp_law_3 : List Str := []
abbrev lf_law_3 : List Str := ["odd"]
theorem lS_law_3 : NScope lN_law_3 lp_law_3 lf_law_3 (lamSc lam_law_3) := nscope_by (by decide +kernel)
theorem lF_law_3 : ∀ y ∈ lf_law_3, (y, NameKind.free) ∈ (lamSc lam_law_3).names := ndef_fr (sc := defScope s_law) (by decide +kernel)
theorem lE_law_3 : ∀ y ∈ (lamSc lam_law_3).names, y.2 = .free → (defScope s_law).names.lookup y.1 = some .cell ∨ (defScope s_law).names.lookup y.1 = some .free := ndef_free (fr := lf_law_3) (by decide +kernel)
theorem lB_law_3 (q : Str) (cl : List (Str × Addr)) (pm ctv : Value) (c : Addr) (us : List Value) (hl : us.length = (lp_law_3).length) : bindArgs (PySem.W.kla_fn "<lambda>" q (lamP lam_law_3) (lamB lam_law_3) (lamSc lam_law_3) cl pm (.ref c) ctv) ⟨us, []⟩ = pure ((lp_law_3).zip us) := match us, hl with | [], _ => rfl
def lam_law_4 : Expr := lamN s_law 4
abbrev lN_law_4 : List Str := ["odd"]
abbrev lp_law_4 : List Str := ["odd"]
abbrev lf_law_4 : List Str := []
theorem lS_law_4 : NScope lN_law_4 lp_law_4 lf_law_4 (lamSc lam_law_4) := nscope_by (by decide +kernel)
theorem lF_law_4 : ∀ y ∈ lf_law_4, (y, NameKind.free) ∈ (lamSc lam_law_4).names := ndef_fr (sc := defScope s_law) (by decide +kernel)
theorem lE_law_4 : ∀ y ∈ (lamSc lam_law_4).names, y.2 = .free → (defScope s_law).names.lookup y.1 = some .cell ∨ (defScope s_law).names.lookup y.1 = some .free := ndef_free (fr := lf_law_4) (by decide +kernel)
theorem lB_law_4 (q : Str) (cl : List (Str × Addr)) (pm ctv : Value) (c : Addr) (us : List Value) (hl : us.length = (lp_law_4).length) : bindArgs (PySem.W.kla_fn "<lambda>" q (lamP lam_law_4) (lamB lam_law_4) (lamSc lam_law_4) cl pm (.ref c) ctv) ⟨us, []⟩ = pure ((lp_law_4).zip us) := match us, hl with | [_], _ => rfl
def lam_law_5 : Expr := lamN s_law 5
abbrev lN_law_5 : List Str := ["odd", "reader"]
abbrev lp_law_5 : List Str := ["odd"]
abbrev lf_law_5 : List Str := ["reader"]
theorem lS_law_5 : NScope lN_law_5 lp_law_5 lf_law_5 (lamSc lam_law_5) := nscope_by (by decide +kernel)
theorem lF_law_5 : ∀ y ∈ lf_law_5, (y, NameKind.free) ∈ (lamSc lam_law_5).names := ndef_fr (sc := defScope s_law) (by decide +kernel)
theorem lE_law_5 : ∀ y ∈ (lamSc lam_law_5).names, y.2 = .free → (defScope s_law).names.lookup y.1 = some .cell ∨ (defScope s_law).names.lookup y.1 = some .free := ndef_free (fr := lf_law_5) (by decide +kernel)
theorem lB_law_5 (q : Str) (cl : List (Str × Addr)) (pm ctv : Value) (c : Addr) (us : List Value) (hl : us.length = (lp_law_5).length) : bindArgs (PySem.W.kla_fn "<lambda>" q (lamP lam_law_5) (lamB lam_law_5) (lamSc lam_law_5) cl pm (.ref c) ctv) ⟨us, []⟩ = pure ((lp_law_5).zip us) := match us, hl with | [_], _ => rfl
def lam_law_6 : Expr := lamN s_law 6
abbrev lN_law_6 : List Str := ["odd"]
abbrev lp_law_6 : List Str := ["odd"]
abbrev lf_law_6 : List Str := []
theorem lS_law_6 : NScope lN_law_6 lp_law_6 lf_law_6 (lamSc lam_law_6) := nscope_by (by decide +kernel)
theorem lF_law_6 : ∀ y ∈ lf_law_6, (y, NameKind.free) ∈ (lamSc lam_law_6).names := ndef_fr (sc := defScope s_law) (by decide +kernel)
theorem lE_law_6 : ∀ y ∈ (lamSc lam_law_6).names, y.2 = .free → (defScope s_law).names.lookup y.1 = some .cell ∨ (defScope s_law).names.lookup y.1 = some .free := ndef_free (fr := lf_law_6) (by decide +kernel)
theorem lB_law_6 (q : Str) (cl : List (Str × Addr)) (pm ctv : Value) (c : Addr) (us : List Value) (hl : us.length = (lp_law_6).length) : bindArgs (PySem.W.kla_fn "<lambda>" q (lamP lam_law_6) (lamB lam_law_6) (lamSc lam_law_6) cl pm (.ref c) ctv) ⟨us, []⟩ = pure ((lp_law_6).zip us) := match us, hl with | [_], _ => rfl
def lam_law_7 : Expr := lamN s_law 7
abbrev lN_law_7 : List Str := ["odd"]
abbrev lp_law_7 : List Str := ["odd"]
abbrev lf_law_7 : List Str := []
theorem lS_law_7 : NScope lN_law_7 lp_law_7 lf_law_7 (lamSc lam_law_7) := nscope_by (by decide +kernel)
theorem lF_law_7 : ∀ y ∈ lf_law_7, (y, NameKind.free) ∈ (lamSc lam_law_7).names := ndef_fr (sc := defScope s_law) (by decide +kernel)
theorem lE_law_7 : ∀ y ∈ (lamSc lam_law_7).names, y.2 = .free → (defScope s_law).names.lookup y.1 = some .cell ∨ (defScope s_law).names.lookup y.1 = some .free := ndef_free (fr := lf_law_7) (by decide +kernel)
theorem lB_law_7 (q : Str) (cl : List (Str × Addr)) (pm ctv : Value) (c : Addr) (us : List Value) (hl : us.length = (lp_law_7).length) : bindArgs (PySem.W.kla_fn "<lambda>" q (lamP lam_law_7) (lamB lam_law_7) (lamSc lam_law_7) cl pm (.ref c) ctv) ⟨us, []⟩ = pure ((lp_law_7).zip us) := match us, hl with | [_], _ => rfl
def oddS : List PyData := [.none, .int 0, .int (-1), .bool true, .str "1", .list [], .dict [], .tuple [.int 1]]
def oddP : List PyData := [.none, .int 5, .str "ab", .dict [], .list [.none], .list [.tuple [.list [.int 1], .list []]], .list [.tuple [.list [.int 0], .list [.list [.int 1]]]], .list [.tuple [.list [.int 0], .list [.list [], .list []]]], .list [.tuple [.list [.int 0], .list []], .tuple [.list [.int 0], .list []]], .list [.tuple [.list [.int 0]]], .list [.tuple [.list [.int 0], .none]], .list [.tuple [.list [.bool true], .list []]]]
def oddR : List PyData := [.none, .int 5, .str "ab", .dict [], .list [], .tuple [.int 1, .int 1, .int 1, .list [], .dict []], .tuple [.int 0, .int 1, .int 1, .list [], .dict [], .dict []], .tuple [.int 1, .int 1, .int 1, .list [.int 1], .dict [], .dict []], .tuple [.int 1, .int 1, .int 1, .list [], .dict [(.tuple [.int 0, .int 1], .tuple [.list [], .int 0])], .dict []], .tuple [.int 1, .int 1, .int 1, .list [], .dict [], .dict [(.int 1, .list [])]], .tuple [.int 1, .int 1, .int 1, .list [], .list [], .dict []]]
def oddW : List PyData := [.none, .int 5, .str "0", .dict [], .list [.int 1], .list [.int (-1)], .list [.bool true], .list [.int 0, .none], .list [.str "0"], .list [.list [.int 0]], .bool true]
theorem ht_all {o : PyData} (h : o ∈ oddS ∨ o ∈ oddP ∨ o ∈ oddR ∨ o ∈ oddW) : gd o = true ∧ MC.ht o ≤ 9 := by
  have key : (oddS ++ oddP ++ oddR ++ oddW).all (fun o => gd o && decide (MC.ht o ≤ 9)) = true := by decide +kernel
  have := List.all_eq_true.mp key o (by rcases h with h | h | h | h <;> simp [h])
  simpa using this
theorem oddS_no : ∀ o ∈ oddS, posI o = false ∧ nd o = true ∧ (o = .int 0 ∨ number o = false) ∧ ((∃ es, o = .dict es) ∨ okD o = true) := by
  intro o ho
  simp only [oddS, List.mem_cons, List.not_mem_nil, or_false] at ho
  rcases ho with rfl | rfl | rfl | rfl | rfl | rfl | rfl | rfl <;> refine ⟨rfl, rfl, ?_, ?_⟩ <;> first | exact .inl rfl | exact .inr rfl | exact .inl ⟨_, rfl⟩ | exact .inr (by decide +kernel)
theorem oddP_no : ∀ o ∈ oddP, lenOk o = true ∧ nd o = true ∧ noneD (kSm 1 1 o) = true := by
  intro o ho
  simp only [oddP, List.mem_cons, List.not_mem_nil, or_false] at ho
  rcases ho with rfl | rfl | rfl | rfl | rfl | rfl | rfl | rfl | rfl | rfl | rfl | rfl <;> refine ⟨by decide +kernel, by decide +kernel, ?_⟩ <;> simp [kSm, kGo, kOne, seqD, keptW, numOk, below, noneD, lookE_nil, putE, lookE]
theorem oddR_no : ∀ o ∈ oddR, rdOk o ∧ noneD (kRd o) = true := by
  intro o ho
  simp only [oddR, List.mem_cons, List.not_mem_nil, or_false] at ho
  rcases ho with rfl | rfl | rfl | rfl | rfl | rfl | rfl | rfl | rfl | rfl | rfl <;> refine ⟨⟨by decide +kernel, ?_⟩, ?_⟩ <;> simp [kRd, seqD, posI, intOf, keptW, numOk, below, noneD, kMv, kEn, mvOk, dOk, lenOk, lenOks]
theorem oddW_no : ∀ o ∈ oddW, lenOk o = true ∧ noneD (keptW (.int 1) o) = true := by
  have key : oddW.all (fun o => lenOk o && noneD (keptW (.int 1) o)) = true := by decide +kernel
  intro o ho
  simpa using List.all_eq_true.mp key o ho
theorem keptW_of {c : Int} {w : PyData} {l : Nat} (h : Wb l c w) : ∃ ns : List Int, keptW (.int c) w = .tuple (ns.map PyData.int) := by
  obtain ⟨ws, rfl, _, hb⟩ := h
  refine ⟨ws, ?_⟩
  have : (ws.map PyData.int).all (numOk (.int c)) = true := by
    rw [List.all_map, List.all_eq_true]
    intro x hx
    have := hb x hx
    simp [numOk, below, this]
  simp only [keptW, seqD, this, if_true]
theorem lenOk_wb {c : Int} {w : PyData} {l : Nat} (h : Wb l c w) (hl : l ≤ 100000) : lenOk w = true := by
  obtain ⟨ws, rfl, h1, _⟩ := h
  have this : ∀ ws : List Int, lenOks (ws.map PyData.int) = true := fun ws => by
    induction ws with
    | nil => rfl
    | cons x r ih => simpa [lenOks, lenOk] using ih
  simp [lenOk, this]; omega
theorem enAcc_mem {C : Int} : ∀ {es acc : List (PyData × PyData)} {p : PyData × PyData}, p ∈ es.foldl (fun acc p => putE acc p.1 (keptW (.int C) p.2)) acc → p ∈ acc ∨ ∃ q ∈ es, p.2 = keptW (.int C) q.2
  | [], _, _, h => .inl h
  | q :: r, acc, p, h => by
    rcases enAcc_mem (es := r) h with h | ⟨q', h1, h2⟩
    · rcases putE_mem h with rfl | h
      · exact .inr ⟨q, by simp, rfl⟩
      · exact .inl h
    · exact .inr ⟨q', by simp [h1], h2⟩
theorem rv_ok {d : PyData} (h : IsRV 100 1 1 d) : rdOk d ∧ ∃ a r, kRd d = .tuple (.int a :: .int 1 :: .int 1 :: r) := by
  obtain ⟨a, b, c, w0, ms, es, rfl, a1, a2, b1, b2, c1, c2, hw, hm, he, hms, hes, n1, n2⟩ := h.ex
  have hb : b = 1 := by omega
  have hc : c = 1 := by omega
  subst hb hc
  constructor
  · refine ⟨by simp [lenOk, lenOks, lenOk_wb hw (by decide)], fun xs e x hx => ?_⟩
    simp only [seqD, Option.some.injEq] at e
    subst e
    simp only [List.mem_cons, List.not_mem_nil, or_false] at hx
    rcases hx with rfl | rfl | rfl | rfl | rfl | rfl
    · trivial
    · trivial
    · trivial
    · obtain ⟨ws, rfl, _⟩ := hw; trivial
    · refine ⟨n1, by omega, fun p hp => ?_⟩
      obtain ⟨i, j, w, s, rfl, _, _, _, hw'⟩ := hms p hp
      simp [lenOk, lenOks, lenOk_wb hw' (by decide)]
    · refine ⟨n2, by omega, fun p hp => ?_⟩
      obtain ⟨i, w, rfl, _, hw'⟩ := hes p hp
      exact lenOk_wb hw' (by decide)
  · obtain ⟨ns, hk⟩ := keptW_of hw
    have pa : posI (.int a) = true := by simp [posI]; omega
    have k1 : ms.all (mvOk a 1 1) = true := by
      rw [List.all_eq_true]
      intro p hp
      obtain ⟨i, j, w, s, rfl, hi, hj, hs, hw'⟩ := hms p hp
      obtain ⟨ns', hk'⟩ := keptW_of hw'
      simp [mvOk, keptR, seqD, below, hi, hj, hs, hk', noneD]
    have k2 : es.all (fun p => below a p.1) = true := by
      rw [List.all_eq_true]
      intro p hp
      obtain ⟨i, w, rfl, hi, _⟩ := hes p hp
      simp [below, hi]
    have k3 : (enAcc 1 es).any (fun p => noneD p.2) = false := by
      rw [List.any_eq_false]
      intro p hp
      rcases enAcc_mem hp with h | ⟨q, hq, e⟩
      · cases h
      · obtain ⟨i, w, rfl, _, hw'⟩ := hes q hq
        obtain ⟨ns', hk'⟩ := keptW_of hw'
        rw [e, hk']; exact Bool.false_ne_true
    have pb : (posI (.int a) && posI (.int 1) && posI (.int 1)) = true := by rw [pa]; rfl
    refine ⟨a, [.tuple (ns.map PyData.int), .dict (mvAcc a 1 ms), .dict (enAcc 1 es)], ?_⟩
    unfold kRd
    simp only [seqD]
    rw [pb, if_pos rfl]
    have q1 : kMv a 1 1 (.dict ms) = .dict (mvAcc a 1 ms) := by unfold kMv; simp only; rw [if_pos k1]
    have q2 : kEn a 1 (.dict es) = .dict (enAcc 1 es) := by unfold kEn; simp only; rw [if_pos k2, k3, if_neg Bool.false_ne_true]
    simp only [intOf, hk, q1, q2]
    rfl
end MC
namespace MC
open PySem PySem.Spec PyProof.Rows L2 DD CL OT LamX NdefX
open Evl (Ex)
section
variable {P : Program} {w : World} {K : PySem.W.Frag} {mg : Str → Option Value} {base : Heap} {CL CS CR CP CT CM CW : Addr}
abbrev Cs7 (CL CS CT CM CR CP CW : Addr) : List (Addr × Str × Str) := CsK CL CS CT CM CR CP CW
def EnL (N : Nat) (e : En) : Prop := ∃ rd v3 v4 v5 v6 v7 n, e = ⟨[.no, .stm, .val rd, v3, v4, v5, v6, v7], n⟩ ∧ IsRV 100 1 1 rd ∧ n ≤ N
/-- a due that is met -/
theorem okAll_of {CL CS CT CM CR CP CW : Addr} {en : En} {fld : Str} {d : PyData} {ce : List Cel} (hn : ce.length ≤ 8) (hf : gd (.str fld) = true) (h : gd d = true ∧ MC.ht d ≤ 9) (hc : ∀ c ∈ ce, c.ok en ∧ MetOk (Cs7 CL CS CT CM CR CP CW) c.beh (.tuple [.str fld, d])) : okAll okM (Cs7 CL CS CT CM CR CP CW) en ce (.tuple [.str fld, d]) := by
  refine ⟨by omega, ⟨?_, ?_⟩, hc⟩
  · have g1 : gd (.tuple [.str fld, d]) = true := by simp [gd, gds, h.1] at hf ⊢; exact hf
    simp only [gd, List.length_replicate, Bool.and_eq_true, decide_eq_true_eq]
    exact ⟨by omega, gds_of fun x hx => by rw [List.eq_of_mem_replicate hx]; exact g1⟩
  · have h1 : MC.ht (.tuple [.str fld, d]) ≤ 10 := by simp [MC.ht, hts]; omega
    have := hts_of (xs := List.replicate ce.length (.tuple [.str fld, d])) (n := 10) fun x hx => by rw [List.eq_of_mem_replicate hx]; exact h1
    simp only [MC.ht] at this ⊢
    omega
theorem met_bad {CL CS CT CM CR CP CW C : Addr} {fld : Str} {d : PyData} (hin : (C, fld, fld) ∈ Cs7 CL CS CT CM CR CP CW) : MetOk (Cs7 CL CS CT CM CR CP CW) (bBad C fld d) (.tuple [.str fld, d]) := fun v => ⟨C, fld, hin, rfl, rfl⟩
theorem okAll_done {CL CS CT CM CR CP CW : Addr} {en : En} {C : Addr} {fld : Str} {d : PyData} {n : Nat} (hin : (C, fld, fld) ∈ Cs7 CL CS CT CM CR CP CW) (hn : n ≤ 4) (hf : gd (.str fld) = true) (h : gd d = true ∧ MC.ht d ≤ 9) : okAll okM (Cs7 CL CS CT CM CR CP CW) en ((List.replicate n (bBad C fld d)).map Cel.done) (.tuple [.str fld, d]) := by
  refine okAll_of (by simp; omega) hf h fun c hc => ?_
  obtain ⟨b, hb, rfl⟩ := List.mem_map.mp hc
  rw [List.eq_of_mem_replicate hb]
  exact ⟨trivial, met_bad hin⟩
variable {f c PT : Addr} {T : List (Addr × Str)} {A : Around} {outer : List Env} {s : Shared} {H : Hp} {E : XK}
theorem loopA (bi : ∀ x ∈ BI, mg x = none) (L_ : LTab (cxOf CX0 P w K mg base N_law "law" (defScope s_law) f (.ref c) A outer s H E).nox T PT) (hr : Room 17 (A.deeper (envOfC "law" (defScope s_law) s.heap.objs.size f (.ref c))))
    (V__law_all_met : DefV P w K mg base 17 "_law_all_met" (spAll P w K mg base 15 okM (Cs7 CL CS CT CM CR CP CW))) (V__law_of_sizes : DefV P w K mg base 16 "_law_of_sizes" (spC P w K mg base T 15 2 (cspSizes CL CS))) (V__law_of_stands : DefV P w K mg base 16 "_law_of_stands" (spC P w K mg base T 15 3 (cspStands CT CM CP))) :
    ∃ t wb, (∀ z : Addr × Addr, JS (zq z T) (cxOf CX0 P w K mg base N_law "law" (defScope s_law) f (.ref c) A outer s H E).nox ((defBody s_law).getD 2 (.Pass ⟨0, 0, 0, 0⟩)) t wb) ∧ ∀ (N : Nat) (en : En) (D : DEn), EnL N en → (∀ en', EnL N en' → D.nx en') → wb D en := by
  refine ⟨_, _, fun z => js_for PassesOwn.never (ji_seq (je_tup (ja_cons je_non (ja_cons je_int (ja_cons (je_neg je_int) (ja_cons je_bl (ja_cons je_str (ja_cons ((jl_lst ja_nil).je') (ja_cons je_dict0 (ja_cons (je_tup (ja_cons je_int ja_nil)) ja_nil)))))))))) (jg_name 3 sc_law.nd rfl (by first | exact Or.inl rfl | exact Or.inr rfl)) (jss_cons (js_if ((jw_or (jt_not (jt_b (je_all V__law_all_met hr (jc_call V__law_of_sizes hr (ja_cons (je_var 3) (ja_cons (je_var 3) ja_nil))) (je_tup (ja_cons je_str (ja_cons (je_var 3) ja_nil)))))) (jw_or1 (jt_not (jt_b (je_all V__law_all_met hr (jc_call V__law_of_sizes hr (ja_cons je_int (ja_cons (je_var 3) ja_nil))) (je_tup (ja_cons je_str (ja_cons (je_var 3) ja_nil)))))))).jt) (jss_one (js_ret je_bl)) (jss_nil))
      (jss_cons (js_if (jt_not (jt_b (je_all V__law_all_met hr (jc_call V__law_of_stands hr (ja_cons (je_var 3) (ja_cons (je_var 3) (ja_cons je_non ja_nil)))) (je_tup (ja_cons je_str (ja_cons (je_var 3) ja_nil)))))) (jss_one (js_ret je_bl)) (jss_nil))
      (jss_one (js_if ((jw_and (jc_t (c_neX hr) (je_var 3) je_int) (jw_and1 (jt_not (jt_b (je_all V__law_all_met hr (jc_call V__law_of_stands hr (ja_cons je_int (ja_cons (je_var 3) (ja_cons je_non ja_nil)))) (je_tup (ja_cons je_str (ja_cons (je_var 3) ja_nil)))))))).jt) (jss_one (js_ret je_bl)) (jss_nil))))), fun N en D h0 hD => ?_⟩
  obtain ⟨rd, v3, v4, v5, v6, v7, n, rfl, hrd, hn⟩ := h0
  simp [wFor_def]
  refine ⟨fun k e => EnL N e, ⟨_, _, _, _, _, _, _, rfl, hrd, hn⟩, ?_, fun en' h => hD en' h⟩
  rintro k d e hk ⟨rd, v3, v4, v5, v6, v7, n, rfl, hrd, hn⟩
  have hm : d ∈ oddS := List.mem_of_getElem? hk
  obtain ⟨q1, q2, q3, q4⟩ := oddS_no d hm
  have hg := ht_all (.inl hm)
  simp [wAll, wcCall]
  have sz : ∀ {d1 : PyData} {C : Addr} {fld : Str}, ((posI d1 = false ∧ C = CL ∧ fld = "letters" ∧ d = d1) ∨ (posI d1 = true ∧ posI d = false ∧ C = CS ∧ fld = "signs" ∧ d = d)) → ∀ vs : List V, vs.length = 2 → cspSizes CL CS vs [d1, d] (List.replicate 4 (bBad C fld d)) := fun h vs hv => ⟨hv, _, _, _, _, d, rfl, rfl, h⟩
  have g0 : gd (.none) = true ∧ nd (.none) = true ∧ MC.ht (.none) < 14 := ⟨rfl, rfl, by decide⟩
  have st : ∀ {d3 : PyData} {C : Addr} {fld : Str}, ((posI d3 = false ∧ C = CT ∧ fld = "stands" ∧ d = d3) ∨ (posI d3 = true ∧ number d = false ∧ C = CM ∧ fld = "most" ∧ d = d)) → ∀ vs : List V, vs.length = 3 → cspStands CT CM CP vs [d3, d, .none] (List.replicate 2 (bBad C fld d)) := fun h vs hv => ⟨hv, _, _, _, _, _, d, rfl, g0.1, g0.2.1, g0.2.2, rfl, h.elim .inl fun h => .inr (.inl h)⟩
  have fin : EnL N { s := [S.no, S.stm, S.val rd, S.val d, v4, v5, v6, v7], n := n } := ⟨_, _, _, _, _, _, _, rfl, hrd, hn⟩
  have most : d ≠ .int 0 → ∃ B, (∀ vs : List V, vs.length = 3 → cspStands CT CM CP vs [.int 1, d, .none] B) ∧ okAll okM (Cs7 CL CS CT CM CR CP CW) { s := [S.no, S.stm, S.val rd, S.val d, v4, v5, v6, v7], n := n } (B.map Cel.done) (.tuple [.str "most", d]) ∧ EnL N { s := [S.no, S.stm, S.val rd, S.val d, v4, v5, v6, v7], n := n } := fun hd =>
    ⟨_, st (.inr ⟨rfl, q3.resolve_left hd, rfl, rfl, rfl⟩), okAll_done (by simp [CsK]) (by omega) (by decide +kernel) hg, fin⟩
  refine ⟨_, sz (.inl ⟨q1, rfl, rfl, rfl⟩), okAll_done (by simp [CsK]) (by omega) (by decide +kernel) hg, _, sz (.inr ⟨rfl, q1, rfl, rfl, rfl⟩), okAll_done (by simp [CsK]) (by omega) (by decide +kernel) hg, _, st (.inl ⟨q1, rfl, rfl, rfl⟩), okAll_done (by simp [CsK]) (by omega) (by decide +kernel) hg, ?_⟩
  rcases q4 with ⟨es, hd⟩ | hd
  · exact .inl ⟨⟨es, hd⟩, most (by rw [hd]; exact fun q => nomatch q)⟩
  · refine .inr ⟨hd, ?_⟩
    cases he : d.eqv (.int 0) with
    | true => exact .inl ⟨rfl, fin⟩
    | false => exact .inr ⟨rfl, most fun q => by rw [q] at he; revert he; decide⟩
theorem ln1 {α : Type} {vs : List α} {n : Nat} (h : vs.length = n) (e : n = 1 := by rfl) : ∃ a, vs = [a] := by
  subst e
  match vs, h with
  | [a], _ => exact ⟨a, rfl⟩
theorem ln2 {α : Type} {vs : List α} {n : Nat} (h : vs.length = n) (e : n = 2 := by rfl) : ∃ a b, vs = [a, b] := by
  subst e
  match vs, h with
  | [a, b], _ => exact ⟨a, b, rfl⟩
theorem loopB (bi : ∀ x ∈ BI, mg x = none) (L_ : LTab (cxOf CX0 P w K mg base N_law "law" (defScope s_law) f (.ref c) A outer s H E).nox T PT) (hr : Room 17 (A.deeper (envOfC "law" (defScope s_law) s.heap.objs.size f (.ref c))))
    (V__law_all_met : DefV P w K mg base 17 "_law_all_met" (spAll P w K mg base 15 okM (Cs7 CL CS CT CM CR CP CW))) (V__law_of_stands : DefV P w K mg base 16 "_law_of_stands" (spC P w K mg base T 15 3 (cspStands CT CM CP)))
    (XD_tree_reader : DefXS P w K mg base 8 "tree_reader" s_tree_reader ps_tree_reader (X_tree CL CS CP)) (XD_fits : DefXS P w K mg base 9 "fits" s_fits ps_fits (X_fits CR CP)) :
    ∃ t wb, (∀ z : Addr × Addr, JS (zq z T) (cxOf CX0 P w K mg base N_law "law" (defScope s_law) f (.ref c) A outer s H E).nox ((defBody s_law).getD 3 (.Pass ⟨0, 0, 0, 0⟩)) t wb) ∧ ∀ (N : Nat) (en : En) (D : DEn), EnL N en → (∀ en', EnL N en' → D.nx en') → wb D en := by
  have lm0 := lam_r (X := (cxOf CX0 P w K mg base N_law "law" (defScope s_law) f (.ref c) A outer s H E).nox) (k := 14) (js := [3]) (fun es Ce fld d => ∃ o, es = [o] ∧ o ∈ oddP ∧ Ce = CP ∧ fld = "sample" ∧ d = o) lS_law_0 (fun cl pm ctv c' us hl => lB_law_0 _ cl pm ctv c' us hl) lF_law_0 lE_law_0 rfl
    (fun f' c' A' outer' s' H' E' hr' tk' => ⟨_, _, jx_f XD_tree_reader.dx hr' tk' (jax_cons (je_int) (jax_cons (je_int) (jax_var 0 jax_nil))), fun ws es Ce fld d RX hl1 hl2 hw ho => by
      obtain ⟨o, rfl, hm, rfl, rfl, rfl⟩ := hw
      obtain ⟨q1, q2, q3⟩ := oddP_no _ hm
      obtain ⟨v, rfl⟩ := ln1 hl1
      simp [startV]
      intro vs hv hx
      obtain ⟨x, y, z, rfl⟩ := ex3 hv
      exact ⟨x, y, z, _, _, _, rfl, rfl, .inr (.inr ⟨rfl, rfl, q1, q3, ho z⟩)⟩⟩)
  have lm1 := lam_r (X := (cxOf CX0 P w K mg base N_law "law" (defScope s_law) f (.ref c) A outer s H E).nox) (k := 14) (js := [2, 3]) (fun es Ce fld d => ∃ rd o, es = [rd, o] ∧ IsRV 100 1 1 rd ∧ o ∈ oddP ∧ Ce = CP ∧ fld = "sample" ∧ d = o) lS_law_1 (fun cl pm ctv c' us hl => lB_law_1 _ cl pm ctv c' us hl) lF_law_1 lE_law_1 rfl
    (fun f' c' A' outer' s' H' E' hr' tk' => ⟨_, _, jx_f XD_fits.dx hr' tk' (jax_var 0 (jax_var 1 jax_nil)), fun ws es Ce fld d RX hl1 hl2 hw ho => by
      obtain ⟨rd, o, rfl, hrd, hm, rfl, rfl, rfl⟩ := hw
      obtain ⟨q1, q2, q3⟩ := oddP_no _ hm
      obtain ⟨v, v', rfl⟩ := ln2 hl1
      simp [startV]
      intro vs hv hx
      obtain ⟨x, y, rfl⟩ := ex2 hv
      obtain ⟨r1, a, r, r2⟩ := rv_ok hrd
      exact ⟨x, y, _, _, rfl, rfl, r1, .inr ⟨a, 1, 1, r, r2, q1, q3, ho y⟩⟩⟩)
  refine ⟨_, _, fun z => js_for PassesOwn.never (ji_seq (je_tup (ja_cons je_non (ja_cons je_int (ja_cons je_str (ja_cons je_dict0 (ja_cons ((jl_lst (ja_cons je_non ja_nil)).je') (ja_cons ((jl_lst (ja_cons (je_tup (ja_cons ((jl_lst (ja_cons je_int ja_nil)).je') (ja_cons ((jl_lst ja_nil).je') ja_nil))) ja_nil)).je') (ja_cons ((jl_lst (ja_cons (je_tup (ja_cons ((jl_lst (ja_cons je_int ja_nil)).je') (ja_cons ((jl_lst (ja_cons ((jl_lst (ja_cons je_int ja_nil)).je') ja_nil)).je') ja_nil))) ja_nil)).je') (ja_cons ((jl_lst (ja_cons (je_tup (ja_cons ((jl_lst (ja_cons je_int ja_nil)).je') (ja_cons ((jl_lst (ja_cons ((jl_lst ja_nil).je') (ja_cons ((jl_lst ja_nil).je') ja_nil))).je') ja_nil))) ja_nil)).je') (ja_cons ((jl_lst (ja_cons (je_tup (ja_cons ((jl_lst (ja_cons je_int ja_nil)).je') (ja_cons ((jl_lst ja_nil).je') ja_nil))) (ja_cons (je_tup (ja_cons ((jl_lst (ja_cons je_int ja_nil)).je') (ja_cons ((jl_lst ja_nil).je') ja_nil))) ja_nil))).je') (ja_cons ((jl_lst (ja_cons (je_tup (ja_cons ((jl_lst (ja_cons je_int ja_nil)).je') ja_nil)) ja_nil)).je') (ja_cons ((jl_lst (ja_cons (je_tup (ja_cons ((jl_lst (ja_cons je_int ja_nil)).je') (ja_cons je_non ja_nil))) ja_nil)).je') (ja_cons ((jl_lst (ja_cons (je_tup (ja_cons ((jl_lst (ja_cons je_bl ja_nil)).je') (ja_cons ((jl_lst ja_nil).je') ja_nil))) ja_nil)).je') ja_nil)))))))))))))) (jg_name 3 sc_law.nd rfl (by first | exact Or.inl rfl | exact Or.inr rfl)) (jss_block 4 sc_law.nd rfl rfl V__law_all_met hr (jc_cat (jc_call V__law_of_stands hr (ja_cons je_int (ja_cons je_int (ja_cons (je_var 3) ja_nil)))) (jc_lam L_ lm0 lE_law_0)) L_ lm1 lE_law_1 (je_tup (ja_cons je_str (ja_cons (je_var 3) ja_nil)))), fun N en D h0 hD => ?_⟩
  obtain ⟨rd, v3, v4, v5, v6, v7, n, rfl, hrd, hn⟩ := h0
  simp [wFor_def]
  refine ⟨fun k e => EnL N e, ⟨_, _, _, _, _, _, _, rfl, hrd, hn⟩, ?_, fun en' h => hD en' h⟩
  rintro k d e hk ⟨rd, v3, v4, v5, v6, v7, n, rfl, hrd, hn⟩
  have hm : d ∈ oddP := List.mem_of_getElem? hk
  obtain ⟨q1, q2, q3⟩ := oddP_no d hm
  have hg := ht_all (.inr (.inl hm))
  simp [wBlock, wcCat, wcCall, wcLam]
  refine ⟨List.replicate 2 (bBad CP "sample" d), fun vs hv => ⟨hv, _, _, _, CP, "sample", d, rfl, hg.1, q2, by omega, rfl, .inr (.inr ⟨rfl, rfl, q1, q3, rfl, rfl, rfl⟩)⟩, by simp, by simp, ⟨[d], CP, "sample", d, [rd, d], CP, "sample", d, okAll_of (by simp) (by decide +kernel) hg fun c hc => ?_⟩, ⟨_, _, _, _, _, _, _, rfl, hrd, hn⟩⟩
  rcases List.mem_append.mp hc with hc | hc
  · obtain ⟨b, hb, rfl⟩ := List.mem_map.mp hc
    rw [List.eq_of_mem_replicate hb]
    exact ⟨trivial, met_bad (by simp [CsK])⟩
  · simp only [List.mem_cons, List.not_mem_nil, or_false] at hc
    rcases hc with rfl | rfl
    · exact ⟨⟨rfl, d, rfl, hm, rfl, rfl, rfl⟩, met_bad (by simp [CsK])⟩
    · exact ⟨⟨rfl, rd, d, rfl, hrd, hm, rfl, rfl, rfl⟩, met_bad (by simp [CsK])⟩
theorem loopC (bi : ∀ x ∈ BI, mg x = none) (L_ : LTab (cxOf CX0 P w K mg base N_law "law" (defScope s_law) f (.ref c) A outer s H E).nox T PT) (hr : Room 17 (A.deeper (envOfC "law" (defScope s_law) s.heap.objs.size f (.ref c))))
    (V__law_all_met : DefV P w K mg base 17 "_law_all_met" (spAll P w K mg base 15 okM (Cs7 CL CS CT CM CR CP CW))) (XD_fits : DefXS P w K mg base 9 "fits" s_fits ps_fits (X_fits CR CP)) :
    ∃ t wb, (∀ z : Addr × Addr, JS (zq z T) (cxOf CX0 P w K mg base N_law "law" (defScope s_law) f (.ref c) A outer s H E).nox ((defBody s_law).getD 4 (.Pass ⟨0, 0, 0, 0⟩)) t wb) ∧ ∀ (N : Nat) (en : En) (D : DEn), EnL N en → (∀ en', EnL N en' → D.nx en') → wb D en := by
  have lm2 := lam_r (X := (cxOf CX0 P w K mg base N_law "law" (defScope s_law) f (.ref c) A outer s H E).nox) (k := 14) (js := [3]) (fun es Ce fld d => ∃ o, es = [o] ∧ o ∈ oddR ∧ Ce = CR ∧ fld = "reader" ∧ d = o) lS_law_2 (fun cl pm ctv c' us hl => lB_law_2 _ cl pm ctv c' us hl) lF_law_2 lE_law_2 rfl
    (fun f' c' A' outer' s' H' E' hr' tk' => ⟨_, _, jx_f XD_fits.dx hr' tk' (jax_var 0 (jax_cons (je_non) jax_nil)), fun ws es Ce fld d RX hl1 hl2 hw ho => by
      obtain ⟨o, rfl, hm, rfl, rfl, rfl⟩ := hw
      obtain ⟨q1, q2⟩ := oddR_no _ hm
      obtain ⟨v, rfl⟩ := ln1 hl1
      simp [startV]
      intro vs hv hx
      obtain ⟨x, y, rfl⟩ := ex2 hv
      exact ⟨x, y, _, _, rfl, rfl, q1, .inl ⟨q2, ho x⟩⟩⟩)
  refine ⟨_, _, fun z => js_for PassesOwn.never (ji_seq (je_tup (ja_cons je_non (ja_cons je_int (ja_cons je_str (ja_cons je_dict0 (ja_cons ((jl_lst ja_nil).je') (ja_cons (je_tup (ja_cons je_int (ja_cons je_int (ja_cons je_int (ja_cons ((jl_lst ja_nil).je') (ja_cons je_dict0 ja_nil)))))) (ja_cons (je_tup (ja_cons je_int (ja_cons je_int (ja_cons je_int (ja_cons ((jl_lst ja_nil).je') (ja_cons je_dict0 (ja_cons je_dict0 ja_nil))))))) (ja_cons (je_tup (ja_cons je_int (ja_cons je_int (ja_cons je_int (ja_cons ((jl_lst (ja_cons je_int ja_nil)).je') (ja_cons je_dict0 (ja_cons je_dict0 ja_nil))))))) (ja_cons (je_tup (ja_cons je_int (ja_cons je_int (ja_cons je_int (ja_cons ((jl_lst ja_nil).je') (ja_cons (je_disp1T hr (je_tup (ja_cons je_int (ja_cons je_int ja_nil))) (je_tup (ja_cons ((jl_lst ja_nil).je') (ja_cons je_int ja_nil)))) (ja_cons je_dict0 ja_nil))))))) (ja_cons (je_tup (ja_cons je_int (ja_cons je_int (ja_cons je_int (ja_cons ((jl_lst ja_nil).je') (ja_cons je_dict0 (ja_cons (je_disp1K je_int ((jl_lst ja_nil).je')) ja_nil))))))) (ja_cons (je_tup (ja_cons je_int (ja_cons je_int (ja_cons je_int (ja_cons ((jl_lst ja_nil).je') (ja_cons ((jl_lst ja_nil).je') (ja_cons je_dict0 ja_nil))))))) ja_nil))))))))))))) (jg_name 3 sc_law.nd rfl (by first | exact Or.inl rfl | exact Or.inr rfl)) (jss_one (js_if (jt_not (jt_b (je_all V__law_all_met hr (jc_lam L_ lm2 lE_law_2) (je_tup (ja_cons je_str (ja_cons (je_var 3) ja_nil)))))) (jss_one (js_ret je_bl)) (jss_nil))), fun N en D h0 hD => ?_⟩
  obtain ⟨rd, v3, v4, v5, v6, v7, n, rfl, hrd, hn⟩ := h0
  simp [wFor_def]
  refine ⟨by decide +kernel, by decide +kernel, fun k e => EnL N e, ⟨_, _, _, _, _, _, _, rfl, hrd, hn⟩, ?_, fun en' h => hD en' h⟩
  rintro k d e hk ⟨rd, v3, v4, v5, v6, v7, n, rfl, hrd, hn⟩
  have hm : d ∈ oddR := List.mem_of_getElem? hk
  have hg := ht_all (.inr (.inr (.inl hm)))
  simp [wAll, wcLam]
  refine ⟨⟨[d], CR, "reader", d, okAll_of (by simp) (by decide +kernel) hg fun c hc => ?_⟩, ⟨_, _, _, _, _, _, _, rfl, hrd, hn⟩⟩
  simp only [List.mem_cons, List.not_mem_nil, or_false] at hc
  rcases hc with rfl
  exact ⟨⟨rfl, d, rfl, hm, rfl, rfl, rfl⟩, met_bad (by simp [CsK])⟩
def S_oddW : ZSp := fun ds n Q => ds = [.int 1] ∧ n < 1099500000000 ∧ ∀ d n', d ∈ oddW → n' ≤ n + 1 → Q d n'
@[simp] theorem S_oddW_at (n : Nat) (Q : PyData → Nat → Prop) : S_oddW [.int 1] n Q ↔ (n < 1099500000000 ∧ ∀ d n', d ∈ oddW → n' ≤ n + 1 → Q d n') := ⟨fun ⟨_, q⟩ => q, fun q => ⟨rfl, q⟩⟩
theorem d__law_w_odd_word (bi : ∀ x ∈ BI, mg x = none) (D : DefT K mg "_law_w_odd_word" s__law_w_odd_word ps__law_w_odd_word) (D__law_pick : DefZ P w K mg base 2 "_law_pick" 1 S_pick) : DefZ P w K mg base 3 "_law_w_odd_word" 1 S_oddW := by
  refine D.z N__law_w_odd_word sc__law_w_odd_word rfl fun f z cdv A outer s H E hr => ⟨_, _, jss_one (js_ret (je_z 0 D__law_pick hr (ja_cons ((jl_lst (ja_cons je_non (ja_cons je_int (ja_cons je_str (ja_cons je_dict0 (ja_cons ((jl_lst (ja_cons (je_var 1) ja_nil)).je') (ja_cons ((jl_lst (ja_cons (je_neg je_int) ja_nil)).je') (ja_cons ((jl_lst (ja_cons je_bl ja_nil)).je') (ja_cons ((jl_lst (ja_cons je_int (ja_cons je_non ja_nil))).je') (ja_cons ((jl_lst (ja_cons je_str ja_nil)).je') (ja_cons ((jl_lst (ja_cons ((jl_lst (ja_cons je_int ja_nil)).je') ja_nil)).je') (ja_cons je_bl ja_nil)))))))))))).je') ja_nil))), fun ds n Q hl h => ?_⟩
  obtain ⟨rfl, hn, q⟩ := h
  simp [startZ]
  have m : ∀ d ∈ oddW, Q d (n + 1) := fun d hd => q d _ hd (Nat.le_refl _)
  exact ⟨by omega, m _ (by simp [oddW]), m _ (by simp [oddW]), m _ (by simp [oddW]), m _ (by simp [oddW]), m _ (by simp [oddW]), m _ (by simp [oddW]), m _ (by simp [oddW]), m _ (by simp [oddW]), m _ (by simp [oddW]), m _ (by simp [oddW]), m _ (by simp [oddW])⟩
theorem loopD (bi : ∀ x ∈ BI, mg x = none) (L_ : LTab (cxOf CX0 P w K mg base N_law "law" (defScope s_law) f (.ref c) A outer s H E).nox T PT) (hr : Room 17 (A.deeper (envOfC "law" (defScope s_law) s.heap.objs.size f (.ref c))))
    (V__law_all_met : DefV P w K mg base 17 "_law_all_met" (spAll P w K mg base 15 okM (Cs7 CL CS CT CM CR CP CW))) (XD_agreed : DefXS P w K mg base 8 "agreed" s_agreed ps_agreed (X_agr CL CS CT CM CP CW)) (D__law_w_odd_word : DefZ P w K mg base 3 "_law_w_odd_word" 1 S_oddW) :
    ∃ t wb, (∀ z : Addr × Addr, JS (zq z T) (cxOf CX0 P w K mg base N_law "law" (defScope s_law) f (.ref c) A outer s H E).nox ((defBody s_law).getD 5 (.Pass ⟨0, 0, 0, 0⟩)) t wb) ∧ ∀ (N : Nat) (en : En) (D : DEn), N ≤ 1000000000 → EnL N en → (∀ en', EnL (N + 4) en' → D.nx en') → wb D en := by
  have lm3 := lam_r (X := (cxOf CX0 P w K mg base N_law "law" (defScope s_law) f (.ref c) A outer s H E).nox) (k := 14) (js := [3]) (fun es Ce fld d => ∃ o, es = [o] ∧ o ∈ oddW ∧ Ce = CW ∧ fld = "word" ∧ d = o) lS_law_3 (fun cl pm ctv c' us hl => lB_law_3 _ cl pm ctv c' us hl) lF_law_3 lE_law_3 rfl
    (fun f' c' A' outer' s' H' E' hr' tk' => ⟨_, _, jx_f XD_agreed.dx hr' tk' (jax_cons (je_int) (jax_cons (je_int) (jax_cons (je_int) (jax_cons (je_int) (jax_cons ((jl_lst ja_nil).je') (jax_var 0 jax_nil)))))), fun ws es Ce fld d RX hl1 hl2 hw ho => by
      obtain ⟨o, rfl, hm, rfl, rfl, rfl⟩ := hw
      obtain ⟨q1, q2⟩ := oddW_no _ hm
      obtain ⟨v, rfl⟩ := ln1 hl1
      simp [startV]
      intro vs hv hx
      obtain ⟨x, y, z, a, b, c, rfl⟩ := ex6 hv
      exact ⟨x, y, z, a, b, c, _, _, _, _, _, _, rfl, rfl, .inr ⟨rfl, rfl, rfl, rfl, rfl, by simp [kSm, seqD, kGo, noneD], q1, q2, ho c⟩⟩⟩)
  refine ⟨_, _, fun z => js_for PassesOwn.never (ji_range1 (by rfl) (bi _ (by decide)) je_int) (jg_name 5 sc_law.nd rfl (by first | exact Or.inl rfl | exact Or.inr rfl)) (jss_cons (js_asg (je_z 1 D__law_w_odd_word hr (ja_cons je_int ja_nil)) (jg_name 3 sc_law.nd rfl (by first | exact Or.inl rfl | exact Or.inr rfl)))
      (jss_one (js_if (jt_not (jt_b (je_all V__law_all_met hr (jc_lam L_ lm3 lE_law_3) (je_tup (ja_cons je_str (ja_cons (je_var 3) ja_nil)))))) (jss_one (js_ret je_bl)) (jss_nil)))), fun N en D hN h0 hD => ?_⟩
  obtain ⟨rd, v3, v4, v5, v6, v7, n, rfl, hrd, hn⟩ := h0
  simp [wFor_def]
  refine ⟨fun k e => k ≤ 4 ∧ EnL (N + k) e, ⟨by omega, _, _, _, _, _, _, _, rfl, hrd, hn⟩, ?_, fun en' h => hD en' h.2⟩
  rintro k d e hk ⟨hk4, rd, v3, v4, v5, v6, v7, n, rfl, hrd, hn⟩
  have hk1 := (List.getElem?_eq_some_iff.mp hk).1
  simp at hk1
  simp
  refine ⟨by omega, fun o n' hm hn' => ?_⟩
  have hg := ht_all (.inr (.inr (.inr hm)))
  simp [wAll, wcLam]
  refine ⟨⟨[o], CW, "word", o, okAll_of (by simp) (by decide +kernel) hg fun c hc => ?_⟩, by omega, ⟨_, _, _, _, _, _, _, rfl, hrd, by omega⟩⟩
  simp only [List.mem_cons, List.not_mem_nil, or_false] at hc
  rcases hc with rfl
  exact ⟨⟨rfl, o, rfl, hm, rfl, rfl, rfl⟩, met_bad (by simp [CsK])⟩
end
end MC
namespace MC
open PySem PySem.Spec PyProof.Rows L2 DD CL OT LamX NdefX
open Evl (Ex)
abbrev s_tree_of : Stmt := top 44
abbrev ps_tree_of : List Str := ["letters", "signs", "sample"]
abbrev s_least_of : Stmt := top 37
abbrev ps_least_of : List Str := ["reader"]
abbrev s_told_reader : Stmt := top 28
abbrev ps_told_reader : List Str := ["reader"]
abbrev s_fitting : Stmt := top 46
abbrev ps_fitting : List Str := ["letters", "signs", "stands", "most", "sample"]
abbrev s_is_fitting : Stmt := top 43
abbrev ps_is_fitting : List Str := ["reader", "sample"]
section
variable {P : Program} {w : World} {K : PySem.W.Frag} {mg : Str → Option Value} {base : Heap} {CL CS CR CP CT CM CW : Addr}
def spLawT (K : PySem.W.Frag) (T : List (Addr × Str)) : Sp := fun vs H Q _ => ∃ (a : Addr) (ns : List Int), vs = [.ref a] ∧ SqL K H a (ns.map V.int) ∧ ns.length ≤ 63 ∧ Tabs T H ∧ ∀ H', Q (.bl true) H'
theorem loop0 {f c : Addr} {T : List (Addr × Str)} {A : Around} {outer : List Env} {s : Shared} {H : Hp} {E : XK} (hr : Room 17 (A.deeper (envOfC "law" (defScope s_law) s.heap.objs.size f (.ref c)))) (D__law_reader : DefZ P w K mg base 4 "_law_reader" 3 V_reader) :
    ∃ t wb, (∀ z : Addr × Addr, JS (zq z T) (cxOf CX0 P w K mg base N_law "law" (defScope s_law) f (.ref c) A outer s H E).nox ((defBody s_law).getD 1 (.Pass ⟨0, 0, 0, 0⟩)) t wb) ∧ ∀ D : DEn, (∀ en', EnL 1000000 en' → D.nx en') → wb D ⟨S.no :: S.stm :: List.replicate 6 .no, 0⟩ := by
  refine ⟨_, _, fun z => js_asg (je_z 1 D__law_reader hr (ja_cons je_int (ja_cons je_int (ja_cons je_int ja_nil)))) (jg_name 2 sc_law.nd rfl (by first | exact Or.inl rfl | exact Or.inr rfl)), fun D hD => ?_⟩
  simp [List.replicate]
  exact fun d n' h hn => hD _ ⟨_, _, _, _, _, _, _, rfl, h, by omega⟩
abbrev Cs3 (CL CR CT : Addr) : List (Addr × Str × Str) := [(CL, "letters", "letters"), (CR, "reader", "reader"), (CT, "stands", "stands")]
/-- how a closure that is handed one thing ends, if that is none -/
def obNum (C : Addr) (fld : Str) : XSp := fun vs ds _ RX => ∃ v d, vs = [v] ∧ ds = [d] ∧ posI d = false ∧ RX (.ref C) fld v d
def obRd (C : Addr) : XSp := fun vs ds _ RX => ∃ v d, vs = [v] ∧ ds = [d] ∧ rdOk d ∧ noneD (kRd d) = true ∧ RX (.ref C) "reader" v d
theorem rd_odd : rdOk (.list [.str "odd"]) ∧ noneD (kRd (.list [.str "odd"])) = true := by
  refine ⟨⟨by decide +kernel, fun xs e x hx => ?_⟩, rfl⟩
  simp only [seqD, Option.some.injEq] at e
  subst e
  simp only [List.mem_singleton] at hx
  subst hx
  trivial
theorem ok_law (bi : ∀ x ∈ BI, mg x = none) {f fs c PT fv : Addr} {fd fds fdv : FuncData} {T : List (Addr × Str)} (F : Fun K "law" "law" s_law f fd) (hc : fnCode K f = some (.ref c)) (TB : TabB base mg c PT) (hmT : (PT, ("law.<locals>.<lambda>" : Str)) ∈ T) (hu : ∀ p ∈ T, p.1 = PT → p.2 = ("law.<locals>.<lambda>" : Str))
    (FS : Fun K "_law_stream" "_law_stream" s__law_stream fs fds) (hms : mg "_law_stream" = some (.ref fs)) (bS : Binds K fds ["script"] []) (D__law_reader : DefZ P w K mg base 4 "_law_reader" 3 V_reader) (D__law_w_odd_word : DefZ P w K mg base 3 "_law_w_odd_word" 1 S_oddW)
    (V__law_all_met : DefV P w K mg base 17 "_law_all_met" (spAll P w K mg base 15 okM (Cs7 CL CS CT CM CR CP CW))) (V__law_of_sizes : DefV P w K mg base 16 "_law_of_sizes" (spC P w K mg base T 15 2 (cspSizes CL CS))) (V__law_of_stands : DefV P w K mg base 16 "_law_of_stands" (spC P w K mg base T 15 3 (cspStands CT CM CP)))
    (XD_tree_reader : DefXS P w K mg base 8 "tree_reader" s_tree_reader ps_tree_reader (X_tree CL CS CP)) (XD_fits : DefXS P w K mg base 9 "fits" s_fits ps_fits (X_fits CR CP)) (XD_agreed : DefXS P w K mg base 8 "agreed" s_agreed ps_agreed (X_agr CL CS CT CM CP CW)) (XD_all_fitting : DefXS P w K mg base 8 "all_fitting" s_all_fitting ps_all_fitting (X_all5 CL CS CT CM CP))
    (G__law_is_very : FnOk P w K mg base CX0 17 fv fdv ps__law_is_very (spVery P w K mg base T 14 (Cs7 CL CS CT CM CR CP CW))) (hm__law_is_very : mg "_law_is_very" = some (.ref fv)) (hk__law_is_very : PySem.W.keepIn K (.ref fv) = true) (hb__law_is_very : Binds K fdv ps__law_is_very []) :
    FnOk P w K mg base CX0 18 f fd ["script"] (spLawT K T) := by
  have GS : FnOk P w K mg base CX0 1 fs fds ["script"] (spStream K) := ok_stream bi FS
  refine fn_okC F sc_law (fun vs H Q E h => ?_) (fun cdv A outer s H vs Q E hcd hr h => ?_)
  · obtain ⟨a, ns, rfl, _⟩ := h
    rfl
  · rw [hc] at hcd
    cases hcd
    obtain ⟨a, ns, rfl, hS, hl, hT, k⟩ := h
    have L : LTab (cxOf CX0 P w K mg base N_law "law" (defScope s_law) f (.ref c) A outer s H E).nox T PT := ⟨⟨c, TB, rfl⟩, hmT, hu⟩
    obtain ⟨t0, w0, J0, h0⟩ := loop0 (T := T) (outer := outer) (s := s) (H := H) (E := E) hr D__law_reader
    obtain ⟨t1, w1, J1, h1⟩ := loopA bi L hr V__law_all_met V__law_of_sizes V__law_of_stands
    obtain ⟨t2, w2, J2, h2⟩ := loopB bi L hr V__law_all_met V__law_of_stands XD_tree_reader XD_fits
    obtain ⟨t3, w3, J3, h3⟩ := loopC bi L hr V__law_all_met XD_fits
    obtain ⟨t4, w4, J4, h4⟩ := loopD bi L hr V__law_all_met XD_agreed D__law_w_odd_word
    refine ⟨_, pss_cons (ps_set (i := 1) sc_law.nd rfl (by first | exact Or.inl rfl | exact Or.inr rfl) (pe_call GS (hr.mono (by decide)) (by rfl) hms FS.kp bS .nil pass0 (pa_cons (pv 0) pa_nil)))
      (pss_cons (J0 (0, 0)).ps (pss_cons (J1 (0, 0)).ps (pss_cons (J2 (0, 0)).ps (pss_cons (J3 (0, 0)).ps (pss_cons (J4 (0, 0)).ps
      (pss_cons (ps_set (i := 4) sc_law.nd rfl (by first | exact Or.inl rfl | exact Or.inr rfl) (pe_lst (pa_cons (pe_tup (pa_cons pe_str (pa_cons (pe_lam L lE_law_4) pa_nil))) (pa_cons (pe_tup (pa_cons pe_str (pa_cons (pe_lam L lE_law_5) pa_nil))) (pa_cons (pe_tup (pa_cons pe_str (pa_cons (pe_lam L lE_law_6) pa_nil))) pa_nil)))))
      (pss_cons (ps_expr (pe_bm PySem.F.plainAttrs_list PySem.F.slot_list_append PySem.F.type_list_append mt_append (pv 4) (pa_cons (pe_tup (pa_cons pe_str (pa_cons (pe_lam L lE_law_7) pa_nil))) pa_nil)))
      (pss_one (ps_ret (pe_callB (cr_all rfl) (by rfl) (bi _ (by decide)) (by decide +kernel) (pa_cons (pe_lc (own := [("word", 6), ("ask", 7)]) rfl sc_law.nd (pi_list (pv 4)) (blkOk_by (show blkC N_law (defScope s_law) _ _ = true by decide +kernel))
        (fun _ _ _ _ _ => (jg_tup (z := z0) 2 (jgs_cons (jg_name 6 sc_law.nd rfl (by first | exact Or.inl rfl | exact Or.inr rfl)) (jgs_cons (jg_name 7 sc_law.nd rfl (by first | exact Or.inl rfl | exact Or.inr rfl)) jgs_nil))).pg) (fun _ _ _ _ _ => (jts_one (z := z0) (jc_t (c_ne hr) (je_var 6) je_str)).pts)
        (fun _ _ _ _ _ => pe_call G__law_is_very (hr.mono (by decide)) (by rfl) hm__law_is_very hk__law_is_very hb__law_is_very .nil pass0 (pa_cons (pv 6) (pa_cons (pv 7) pa_nil))) (by intro _; rfl)) pa_nil))))))))))), ?_⟩
    refine ⟨_, rfl, a, ns, rfl, hS, hl, fun st sl hsl hst hne => ?_⟩
    have sit : Sit (zq (st, sl) T) (L2.upd (L2.upd H sl (.lst (ns.map V.int))) st (.lst [.ref sl, .int 0, .int 0, .int 17])) ((L2.start N_law [V.ref a]).set 1 (some (.ref st))) (L2.upd (L2.upd H sl (.lst (ns.map V.int))) st (.lst [.ref sl, .int 0, .int 0, .int 17])) (fun _ => none) ⟨S.no :: S.stm :: List.replicate 6 .no, 0⟩ := {
      sub := fun b o e => by cases e
      stm := ⟨⟨ns, 0, 0, 17, upd_same, by rw [upd_ne (Ne.symm hne)]; exact upd_same, by decide, by decide, by decide, by decide, by decide, Ne.symm hne⟩, tabs_upd (tabs_upd hT (.inr hsl)) (.inr (by rw [upd_ne hne]; exact hst))⟩
      off := fun _ _ => rfl
      len := rfl
      slot := fun i x h => by
        match i, h with
        | 0, h => cases h; exact ⟨_, rfl, trivial⟩
        | 1, h => cases h; exact ⟨_, rfl, st, sl, rfl, rfl⟩
        | n + 2, h =>
          have h : (List.replicate 6 S.no)[n]? = some x := h
          have hx := List.eq_of_mem_replicate (List.mem_of_getElem? h)
          subst hx
          have hn := (List.getElem?_eq_some_iff.mp h).1
          simp at hn
          have : n = 0 ∨ n = 1 ∨ n = 2 ∨ n = 3 ∨ n = 4 ∨ n = 5 := by omega
          rcases this with rfl | rfl | rfl | rfl | rfl | rfl <;> exact ⟨_, rfl, trivial⟩
      sep := fun i j x y l hij h1 h2 o1 o2 => by
        have := List.mem_of_getElem? h1
        simp at this
        rcases this with rfl | rfl | rfl <;> exact absurd o1 Bool.false_ne_true }
    refine (J0 (st, sl)).de _ _ _ _ _ _ _ { nx := fun e => EnL 1000000 e, rt := fun _ _ => False, bk := fun _ => False, ct := fun _ => False, xx := fun _ _ _ _ => False } sit (Grow.refl sit.sub) (h0 _ fun _ h => h) ⟨fun σ H2 F2 en s2 g2 q => ?_, fun _ _ _ _ _ _ _ _ q => q.elim, fun _ _ _ _ _ _ q => q.elim, fun _ _ _ _ _ _ q => q.elim, fun _ _ _ _ _ _ _ _ _ _ q => q.elim⟩
    refine (J1 (st, sl)).de _ _ _ _ _ _ _ { nx := fun e => EnL 1000000 e, rt := fun _ _ => False, bk := fun _ => False, ct := fun _ => False, xx := fun _ _ _ _ => False } s2 g2 (h1 _ _ _ q fun _ h => h) ⟨fun σ H2 F2 en s2 g2 q => ?_, fun _ _ _ _ _ _ _ _ q => q.elim, fun _ _ _ _ _ _ q => q.elim, fun _ _ _ _ _ _ q => q.elim, fun _ _ _ _ _ _ _ _ _ _ q => q.elim⟩
    refine (J2 (st, sl)).de _ _ _ _ _ _ _ { nx := fun e => EnL 1000000 e, rt := fun _ _ => False, bk := fun _ => False, ct := fun _ => False, xx := fun _ _ _ _ => False } s2 g2 (h2 _ _ _ q fun _ h => h) ⟨fun σ H2 F2 en s2 g2 q => ?_, fun _ _ _ _ _ _ _ _ q => q.elim, fun _ _ _ _ _ _ q => q.elim, fun _ _ _ _ _ _ q => q.elim, fun _ _ _ _ _ _ _ _ _ _ q => q.elim⟩
    refine (J3 (st, sl)).de _ _ _ _ _ _ _ { nx := fun e => EnL 1000000 e, rt := fun _ _ => False, bk := fun _ => False, ct := fun _ => False, xx := fun _ _ _ _ => False } s2 g2 (h3 _ _ _ q fun _ h => h) ⟨fun σ H2 F2 en s2 g2 q => ?_, fun _ _ _ _ _ _ _ _ q => q.elim, fun _ _ _ _ _ _ q => q.elim, fun _ _ _ _ _ _ q => q.elim, fun _ _ _ _ _ _ _ _ _ _ q => q.elim⟩
    refine (J4 (st, sl)).de _ _ _ _ _ _ _ { nx := fun e => EnL 1000004 e, rt := fun _ _ => False, bk := fun _ => False, ct := fun _ => False, xx := fun _ _ _ _ => False } s2 g2 (h4 _ _ _ (by decide) q fun _ h => h) ⟨fun σ H2 F2 en s2 g2 q => ?_, fun _ _ _ _ _ _ _ _ q => q.elim, fun _ _ _ _ _ _ q => q.elim, fun _ _ _ _ _ _ q => q.elim, fun _ _ _ _ _ _ _ _ _ _ q => q.elim⟩
    have T2 : Tabs T H2 := s2.stm.t
    have hσ : σ.length = 8 := by
      obtain ⟨_, _, _, _, _, _, _, rfl, _⟩ := q
      exact s2.len
    clear q s2 g2 sit
    have hP : ∃ q, (PT, q) ∈ T := ⟨_, hmT⟩
    let O : Hp := fun _ => none
    have eO : ∀ H' : Hp, Ex O H' := fun H' b u e => nomatch e
    have hO : ∀ p ∈ T, O p.1 = none := fun _ _ => rfl
    refine ⟨T2, fun f1 c1 H3 b01 b02 b03 b04 b05 b06 => ⟨(by show 2 ≤ sizeLine; decide), fun p1 hp1 => ⟨tabs_upd b03 (.inr hp1), fun f2 c2 H5 b11 b12 b13 b14 b15 b16 => ⟨(by show 2 ≤ sizeLine; decide), fun p2 hp2 => ⟨tabs_upd b13 (.inr hp2), fun f3 c3 H7 b21 b22 b23 b24 b25 b26 => ⟨(by show 2 ≤ sizeLine; decide), fun p3 hp3 => ⟨(by show 3 ≤ sizeLine; decide), fun l hl => ?_⟩⟩⟩⟩⟩⟩⟩
    have th4 := mk_thunk0 (X := (cxOf CX0 P w K mg base N_law "law" (defScope s_law) f (.ref c) A outer s H E).nox) (k := 13) (Fc := fun _ => none) (ob := obNum CL "letters") b05 b06 lS_law_4 (fun cl pm ctv us hl => lB_law_4 _ cl pm ctv _ us hl) rfl (fun A' outer' s' H' E' hr' tk' vs ds R RX e1 e2 ho => .inl ⟨_, _, jx_f XD_tree_reader.dx hr' tk' (jax_var 0 (jax_cons (je_int) (jax_cons ((jl_lst ja_nil).je') jax_nil))), by
        obtain ⟨v, d, rfl, rfl, hp, h1⟩ := ho
        simp [startV]
        intro vs hv hx
        obtain ⟨x, y, z, rfl⟩ := ex3 hv
        have := hx 0 0 v d rfl rfl
        simp at this
        subst this
        exact ⟨x, y, z, _, _, _, rfl, rfl, .inl ⟨hp, h1⟩⟩⟩)
    have th6 := mk_thunk0 (X := (cxOf CX0 P w K mg base N_law "law" (defScope s_law) f (.ref c) A outer s H E).nox) (k := 13) (Fc := fun _ => none) (ob := obRd CR) b25 b26 lS_law_6 (fun cl pm ctv us hl => lB_law_6 _ cl pm ctv _ us hl) rfl (fun A' outer' s' H' E' hr' tk' vs ds R RX e1 e2 ho => .inl ⟨_, _, jx_f XD_fits.dx hr' tk' (jax_var 0 (jax_cons ((jl_lst ja_nil).je') jax_nil)), by
        obtain ⟨v, d, rfl, rfl, hd, hp, h1⟩ := ho
        simp [startV]
        intro vs hv hx
        obtain ⟨x, y, rfl⟩ := ex2 hv
        have := hx 0 0 v d rfl rfl
        simp at this
        subst this
        exact ⟨x, y, _, _, rfl, rfl, hd, .inl ⟨hp, h1⟩⟩⟩)
    have exU : ∀ {D H' : Hp} {a : Addr} {o : HO}, Ex D H' → H' a = none → Ex D (L2.upd H' a o) := fun {D H' a o} e h b u q => by rw [upd_ne (ne_of_none (e b u q) h)]; exact e b u q
    have hnum : ∀ (C : Addr) (fld : Str) (v : V) (R : PyData → Prop) (RX : Value → Str → V → PyData → Prop), RX (.ref C) fld v (.list [.str "odd"]) → obNum C fld [v] [.list [.str "odd"]] R RX := fun C fld v R RX h => ⟨v, _, rfl, rfl, rfl, h⟩
    have hrd : ∀ (v : V) (R : PyData → Prop) (RX : Value → Str → V → PyData → Prop), RX (.ref CR) "reader" v (.list [.str "odd"]) → obRd CR [v] [.list [.str "odd"]] R RX := fun v R RX h => ⟨v, _, rfl, rfl, rd_odd.1, rd_odd.2, h⟩
    have T4 : Tabs T (L2.upd H3 p1 (.tup [.str "letters", .ref f1])) := tabs_upd b03 (.inr hp1)
    have T6 : Tabs T (L2.upd H5 p2 (.tup [.str "sample", .ref f2])) := tabs_upd b13 (.inr hp2)
    have T8 : Tabs T (L2.upd H7 p3 (.tup [.str "reader", .ref f3])) := tabs_upd b23 (.inr hp3)
    have S2 : LamStep T PT (L2.upd H3 p1 (.tup [.str "letters", .ref f1])) H5 f2 (mkLam ("law.<locals>.<lambda>") (lamP lam_law_5) (lamB lam_law_5) (lamSc lam_law_5) (envOfC "law" (defScope s_law) s.heap.objs.size f (.ref c)).cells c2) := ⟨b11, b12, b13, b14, b15, b16⟩
    have S3 : LamStep T PT (L2.upd H5 p2 (.tup [.str "sample", .ref f2])) H7 f3 (mkLam ("law.<locals>.<lambda>") (lamP lam_law_6) (lamB lam_law_6) (lamSc lam_law_6) (envOfC "law" (defScope s_law) s.heap.objs.size f (.ref c)).cells c3) := ⟨b21, b22, b23, b24, b25, b26⟩
    have v1 : VeryOr P w K mg base 14 (Cs3 CL CR CT) "sample" (L2.upd H3 p1 (.tup [.str "letters", .ref f1])) O (.ref p1) := .inr ⟨p1, "letters", f1, _, _, _, CL, "letters", rfl, upd_same, by simp [Cs3], th4.1, exU th4.2 hp1, eO _, hnum CL "letters"⟩
    have v1 := (v1.grow T4 (S2.grow hP hO (eO _))).grow b13 (Grow.fresh (o := .tup [.str "sample", .ref f2]) (eO _) hp2)
    have v1 := (v1.grow T6 (S3.grow hP hO (eO _))).grow b23 (Grow.fresh (o := .tup [.str "reader", .ref f3]) (eO _) hp3)
    have v2 : VeryOr P w K mg base 14 (Cs3 CL CR CT) "sample" (L2.upd H5 p2 (.tup [.str "sample", .ref f2])) O (.ref p2) := .inl ⟨p2, f2, rfl, upd_same⟩
    have v2 := (v2.grow T6 (S3.grow hP hO (eO _))).grow b23 (Grow.fresh (o := .tup [.str "reader", .ref f3]) (eO _) hp3)
    have v3 : VeryOr P w K mg base 14 (Cs3 CL CR CT) "sample" (L2.upd H7 p3 (.tup [.str "reader", .ref f3])) O (.ref p3) := .inr ⟨p3, "reader", f3, _, _, _, CR, "reader", rfl, upd_same, by simp [Cs3], th6.1, exU th6.2 hp3, eO _, hrd⟩
    have gl := Grow.fresh (z := zT T) (o := .lst [.ref p1, .ref p2, .ref p3]) (eO (L2.upd H7 p3 (.tup [.str "reader", .ref f3]))) hl
    have v1 := v1.grow T8 gl
    have v2 := v2.grow T8 gl
    have v3 := v3.grow T8 gl
    have T9 : Tabs T (L2.upd (L2.upd H7 p3 (.tup [.str "reader", .ref f3])) l (.lst [.ref p1, .ref p2, .ref p3])) := tabs_upd T8 (.inr hl)
    have l9 : L2.upd (L2.upd H7 p3 (.tup [.str "reader", .ref f3])) l (.lst [.ref p1, .ref p2, .ref p3]) l = some (.lst [.ref p1, .ref p2, .ref p3]) := upd_same
    clear gl T4 T6 T8 S2 S3 th4 th6 b01 b02 b03 b04 b05 b06 b11 b12 b13 b14 b15 b16 b21 b22 b23 b24 b25 b26
    have s4 : (σ.set 4 (some (V.ref l)))[4]? = some (some (.ref l)) := List.getElem?_set_self (by rw [hσ]; decide)
    refine ⟨.ref l, s4, .inl ⟨rfl, _, SqL.of l9⟩, T9, fun f4 c4 H11 b31 b32 b33 b34 b35 b36 => ⟨(by show 2 ≤ sizeLine; decide), fun p4 hp4 => ?_⟩⟩
    generalize L2.upd (L2.upd H7 p3 (.tup [.str "reader", .ref f3])) l (.lst [.ref p1, .ref p2, .ref p3]) = H9 at v1 v2 v3 T9 l9 b31 b32 b34
    have th7 := mk_thunk0 (X := (cxOf CX0 P w K mg base N_law "law" (defScope s_law) f (.ref c) A outer s H E).nox) (k := 13) (Fc := fun _ => none) (ob := obNum CT "stands") b35 b36 lS_law_7 (fun cl pm ctv us hl => lB_law_7 _ cl pm ctv _ us hl) rfl (fun A' outer' s' H' E' hr' tk' vs ds R RX e1 e2 ho => .inl ⟨_, _, jx_f XD_all_fitting.dx hr' tk' (jax_cons (je_int) (jax_cons (je_int) (jax_var 0 (jax_cons (je_int) (jax_cons ((jl_lst ja_nil).je') jax_nil))))), by
        obtain ⟨v, d, rfl, rfl, hp, h1⟩ := ho
        simp [startV]
        intro vs hv hx
        obtain ⟨x, y, z, a, b, rfl⟩ := ex5 hv
        have := hx 2 0 v d rfl rfl
        simp at this
        subst this
        exact ⟨x, y, z, a, b, _, _, _, _, _, rfl, rfl, .inr (.inr (.inl ⟨rfl, rfl, hp, h1⟩))⟩⟩)
    have S4 : LamStep T PT H9 H11 f4 (mkLam ("law.<locals>.<lambda>") (lamP lam_law_7) (lamB lam_law_7) (lamSc lam_law_7) (envOfC "law" (defScope s_law) s.heap.objs.size f (.ref c)).cells c4) := ⟨b31, b32, b33, b34, b35, b36⟩
    have g4 := S4.grow hP hO (eO _)
    have l11 : H11 l = some (.lst [.ref p1, .ref p2, .ref p3]) := g4.keep _ _ (tabs_not T9 l9 fun _ z => (nomatch z)) l9
    have l12 : L2.upd H11 p4 (.tup [.str "stands", .ref f4]) l = some (.lst [.ref p1, .ref p2, .ref p3]) := by rw [upd_ne (ne_of_none l11 hp4)]; exact l11
    refine ⟨l, _, .ref p4, rfl, rfl, l12, (by show 3 < sizeLine; decide), ?_⟩
    have T12 : Tabs T (L2.upd H11 p4 (.tup [.str "stands", .ref f4])) := tabs_upd b33 (.inr hp4)
    have gp := Grow.fresh (z := zT T) (o := .tup [.str "stands", .ref f4]) (eO H11) hp4
    have v1 := (v1.grow T9 g4).grow b33 gp
    have v2 := (v2.grow T9 g4).grow b33 gp
    have v3 := (v3.grow T9 g4).grow b33 gp
    have v4 : VeryOr P w K mg base 14 (Cs3 CL CR CT) "sample" (L2.upd H11 p4 (.tup [.str "stands", .ref f4])) O (.ref p4) := .inr ⟨p4, "stands", f4, _, _, _, CT, "stands", rfl, upd_same, by simp [Cs3], th7.1, exU th7.2 hp4, eO _, hnum CT "stands"⟩
    generalize L2.upd H11 p4 (.tup [.str "stands", .ref f4]) = H12 at v1 v2 v3 v4 T12 l12
    have kx : ∀ b o, ((∃ φ, o = .ext φ) ∨ ∃ xs, o = .tup xs) → H12 b = some o → L2.upd H12 l (.lst ([.ref p1, .ref p2, .ref p3] ++ [.ref p4])) b = some o := fun b o h e => by
      rw [upd_ne (fun q => by rw [q, l12] at e; rcases h with ⟨φ, rfl⟩ | ⟨xs, rfl⟩ <;> cases e)]; exact e
    refine tail_allF (Cs' := Cs3 CL CR CT) (T := T) (F := O) (l := l) (skip := "sample") (ts := [.ref p1, .ref p2, .ref p3, .ref p4]) (by exact s4) upd_same (fun v hv => ?_) (eO _) (tabs_upd T12 (.inl ⟨_, l12⟩)) hO (by show 4 ≤ 1000; decide) (by rw [List.length_set, hσ]; decide) (by rw [List.length_set, hσ]; decide) (by decide) _ (fun p a b σ H R e q => ⟨p, [a, b], rfl, fun K => .inr (SqT.of e), rfl, a, [b], rfl, b, [], rfl, rfl, q⟩) (fun σ H x R hm hx h => ?_) (fun x hx => ?_) (fun x hx => ?_) (fun H' _ _ _ => k H')
    · simp only [List.mem_cons, List.not_mem_nil, or_false] at hv
      rcases hv with rfl | rfl | rfl | rfl
      · exact v1.exts kx
      · exact v2.exts kx
      · exact v3.exts kx
      · exact v4.exts kx
    · have okx : SeqAt.shaped (.str x) = true ∧ PyData.eqv (.str x) (.str "sample") = decide (x = "sample") := by
        have hc : x = "letters" ∨ x = "stands" ∨ x = "reader" ∨ x = "sample" := by
          rcases hm with rfl | ⟨y, hy, rfl⟩
          · simp
          · simp only [List.mem_cons, List.not_mem_nil, or_false] at hy
            rcases hy with rfl | rfl | rfl <;> simp
        rcases hc with rfl | rfl | rfl | rfl <;> exact ⟨by decide +kernel, by decide +kernel⟩
      refine ⟨.str x, hx, fun K' => ⟨.str x, .str "sample", (Rp.str x).dp (F := fun _ => none) (fun _ _ e => nomatch e) rfl, (Rp.str "sample").dp (F := fun _ => none) (fun _ _ e => nomatch e) rfl, okx.1, by decide +kernel, _, rfl, ?_⟩⟩
      rw [okx.2]
      by_cases hs : x = "sample"
      · rw [decide_eq_true hs]; exact h.1 hs
      · rw [decide_eq_false hs]; exact h.2 hs
    · simp only [List.mem_cons, List.not_mem_nil, or_false] at hx
      rcases hx with rfl | rfl | rfl
      · exact (by decide +kernel : ("letters" : Str) ≠ "sample")
      · exact (by decide +kernel : ("reader" : Str) ≠ "sample")
      · exact (by decide +kernel : ("stands" : Str) ≠ "sample")
    · simp only [List.mem_cons, List.not_mem_nil, or_false] at hx
      rcases hx with rfl | rfl | rfl <;> simp [CsK]
end
end MC
namespace MC
open PySem PySem.Spec PyProof.Rows L2 DD
abbrev i_BadLetters : Stmt := inClass (top 11) 0
abbrev i_BadSigns : Stmt := inClass (top 12) 0
abbrev i_BadStands : Stmt := inClass (top 14) 0
abbrev i_BadMost : Stmt := inClass (top 9) 0
abbrev i_BadReader : Stmt := inClass (top 10) 0
abbrev i_BadSample : Stmt := inClass (top 13) 0
abbrev i_BadWord : Stmt := inClass (top 8) 0
section
theorem fnc_of {K : PySem.W.Frag} {f : Addr} {oc : Value} {od : Option Addr} {fd : FuncData} {sl : Array (Option Value)} (l : K.lookup f = some ⟨oc, od, .func fd, sl⟩) : CL.fnCode K f = some fd.code := by unfold CL.fnCode; rw [l]
theorem all_mk {l : PySem.W.OpenLaw} {w : World} {K : PySem.W.Frag} {h : Heap} {mg : Str → Option Value} {fa f0 f1 f2 f3 f4 f5 f6 f7 f8 f9 f10 f11 f12 f13 f14 f15 f16 f17 f18 f19 f20 f21 f22 f23 f24 f25 f26 f27 f28 f29 f30 f31 f32 f33 f34 f35 f36 f37 f38 q0 r0 q1 r1 q2 r2 q3 r3 C0 g0 C1 g1 C2 g2 C3 g3 C4 g4 C5 g5 C6 g6 : Addr} (X : K.In h) (G : h.Ns mainGlobals mg) (hfa : mg "law" = some (.ref fa))
    {od0 an0 : Option Addr} {sl0 : Array (Option Value)} {oc0 kV0 dc0 pm0 ct0 cd0 : Value}
    {od1 an1 : Option Addr} {sl1 : Array (Option Value)} {oc1 kV1 dc1 pm1 ct1 cd1 : Value}
    {od2 an2 : Option Addr} {sl2 : Array (Option Value)} {oc2 kV2 dc2 pm2 ct2 cd2 : Value}
    {od3 an3 : Option Addr} {sl3 : Array (Option Value)} {oc3 kV3 dc3 pm3 ct3 cd3 : Value}
    {od4 an4 : Option Addr} {sl4 : Array (Option Value)} {oc4 kV4 dc4 pm4 ct4 cd4 : Value}
    {od5 an5 : Option Addr} {sl5 : Array (Option Value)} {oc5 kV5 dc5 pm5 ct5 cd5 : Value}
    {od6 an6 : Option Addr} {sl6 : Array (Option Value)} {oc6 kV6 dc6 pm6 ct6 cd6 : Value}
    {od7 an7 : Option Addr} {sl7 : Array (Option Value)} {oc7 kV7 dc7 pm7 ct7 cd7 : Value}
    {od8 an8 : Option Addr} {sl8 : Array (Option Value)} {oc8 kV8 dc8 pm8 ct8 cd8 : Value}
    {od9 an9 : Option Addr} {sl9 : Array (Option Value)} {oc9 kV9 dc9 pm9 ct9 cd9 : Value}
    {od10 an10 : Option Addr} {sl10 : Array (Option Value)} {oc10 kV10 dc10 pm10 ct10 cd10 : Value}
    {od11 an11 : Option Addr} {sl11 : Array (Option Value)} {oc11 kV11 dc11 pm11 ct11 cd11 : Value}
    {od12 an12 : Option Addr} {sl12 : Array (Option Value)} {oc12 kV12 dc12 pm12 ct12 cd12 : Value}
    {od13 an13 : Option Addr} {sl13 : Array (Option Value)} {oc13 kV13 dc13 pm13 ct13 cd13 : Value}
    {od14 an14 : Option Addr} {sl14 : Array (Option Value)} {oc14 kV14 dc14 pm14 ct14 cd14 : Value}
    {od15 an15 : Option Addr} {sl15 : Array (Option Value)} {oc15 kV15 dc15 pm15 ct15 cd15 : Value}
    {od16 an16 : Option Addr} {sl16 : Array (Option Value)} {oc16 kV16 dc16 pm16 ct16 cd16 : Value}
    {od17 an17 : Option Addr} {sl17 : Array (Option Value)} {oc17 kV17 dc17 pm17 ct17 cd17 : Value}
    {od18 an18 : Option Addr} {sl18 : Array (Option Value)} {oc18 kV18 dc18 pm18 ct18 cd18 : Value}
    {od19 an19 : Option Addr} {sl19 : Array (Option Value)} {oc19 kV19 dc19 pm19 ct19 cd19 : Value}
    {od20 an20 : Option Addr} {sl20 : Array (Option Value)} {oc20 kV20 dc20 pm20 ct20 cd20 : Value}
    {od21 an21 : Option Addr} {sl21 : Array (Option Value)} {oc21 kV21 dc21 pm21 ct21 cd21 : Value}
    {od22 an22 : Option Addr} {sl22 : Array (Option Value)} {oc22 kV22 dc22 pm22 ct22 cd22 : Value}
    {od23 an23 : Option Addr} {sl23 : Array (Option Value)} {oc23 kV23 dc23 pm23 ct23 cd23 : Value}
    {od24 an24 : Option Addr} {sl24 : Array (Option Value)} {oc24 kV24 dc24 pm24 ct24 cd24 : Value}
    {od25 an25 : Option Addr} {sl25 : Array (Option Value)} {oc25 kV25 dc25 pm25 ct25 cd25 : Value}
    {od26 an26 : Option Addr} {sl26 : Array (Option Value)} {oc26 kV26 dc26 pm26 ct26 cd26 : Value}
    {od27 an27 : Option Addr} {sl27 : Array (Option Value)} {oc27 kV27 dc27 pm27 ct27 cd27 : Value}
    {od28 an28 : Option Addr} {sl28 : Array (Option Value)} {oc28 kV28 dc28 pm28 ct28 cd28 : Value}
    {od29 an29 : Option Addr} {sl29 : Array (Option Value)} {oc29 kV29 dc29 pm29 ct29 cd29 : Value}
    {od30 an30 : Option Addr} {sl30 : Array (Option Value)} {oc30 kV30 dc30 pm30 ct30 : Value}
    {od31 an31 : Option Addr} {sl31 : Array (Option Value)} {oc31 kV31 dc31 pm31 ct31 cd31 : Value}
    {od32 an32 : Option Addr} {sl32 : Array (Option Value)} {oc32 kV32 dc32 pm32 ct32 cd32 : Value}
    {od33 an33 : Option Addr} {sl33 : Array (Option Value)} {oc33 kV33 dc33 pm33 ct33 cd33 : Value}
    {od34 an34 : Option Addr} {sl34 : Array (Option Value)} {oc34 kV34 dc34 pm34 ct34 cd34 : Value}
    {od35 an35 : Option Addr} {sl35 : Array (Option Value)} {oc35 kV35 dc35 pm35 ct35 cd35 : Value}
    {od36 an36 : Option Addr} {sl36 : Array (Option Value)} {oc36 kV36 dc36 pm36 ct36 : Value}
    {od37 an37 : Option Addr} {sl37 : Array (Option Value)} {oc37 kV37 dc37 pm37 ct37 : Value}
    {od38 an38 : Option Addr} {sl38 : Array (Option Value)} {oc38 kV38 dc38 pm38 ct38 : Value}
    {oq0 : Option Addr} {vq0 : Array Value} {sq0 : Array (Option Value)}
    {oq1 : Option Addr} {vq1 : Array Value} {sq1 : Array (Option Value)}
    {oq2 : Option Addr} {vq2 : Array Value} {sq2 : Array (Option Value)}
    {oq3 : Option Addr} {vq3 : Array Value} {sq3 : Array (Option Value)}
    {nm0 qq0 : Str} {N0 : Addr} {bs0 bm0 : List Value} {sn0 : List Str} {sub0 : List Value} {ab0 : Bool} {col0 : Option Bool} {dd0 : Option Addr} {m00 m10 m20 m30 m50 : Option Value} {odx0 anx0 : Option Addr} {slx0 : Array (Option Value)} {ocx0 kVx0 dcx0 pmx0 ctx0 cdx0 : Value}
    {nm1 qq1 : Str} {N1 : Addr} {bs1 bm1 : List Value} {sn1 : List Str} {sub1 : List Value} {ab1 : Bool} {col1 : Option Bool} {dd1 : Option Addr} {m01 m11 m21 m31 m51 : Option Value} {odx1 anx1 : Option Addr} {slx1 : Array (Option Value)} {ocx1 kVx1 dcx1 pmx1 ctx1 cdx1 : Value}
    {nm2 qq2 : Str} {N2 : Addr} {bs2 bm2 : List Value} {sn2 : List Str} {sub2 : List Value} {ab2 : Bool} {col2 : Option Bool} {dd2 : Option Addr} {m02 m12 m22 m32 m52 : Option Value} {odx2 anx2 : Option Addr} {slx2 : Array (Option Value)} {ocx2 kVx2 dcx2 pmx2 ctx2 cdx2 : Value}
    {nm3 qq3 : Str} {N3 : Addr} {bs3 bm3 : List Value} {sn3 : List Str} {sub3 : List Value} {ab3 : Bool} {col3 : Option Bool} {dd3 : Option Addr} {m03 m13 m23 m33 m53 : Option Value} {odx3 anx3 : Option Addr} {slx3 : Array (Option Value)} {ocx3 kVx3 dcx3 pmx3 ctx3 cdx3 : Value}
    {nm4 qq4 : Str} {N4 : Addr} {bs4 bm4 : List Value} {sn4 : List Str} {sub4 : List Value} {ab4 : Bool} {col4 : Option Bool} {dd4 : Option Addr} {m04 m14 m24 m34 m54 : Option Value} {odx4 anx4 : Option Addr} {slx4 : Array (Option Value)} {ocx4 kVx4 dcx4 pmx4 ctx4 cdx4 : Value}
    {nm5 qq5 : Str} {N5 : Addr} {bs5 bm5 : List Value} {sn5 : List Str} {sub5 : List Value} {ab5 : Bool} {col5 : Option Bool} {dd5 : Option Addr} {m05 m15 m25 m35 m55 : Option Value} {odx5 anx5 : Option Addr} {slx5 : Array (Option Value)} {ocx5 kVx5 dcx5 pmx5 ctx5 cdx5 : Value}
    {nm6 qq6 : Str} {N6 : Addr} {bs6 bm6 : List Value} {sn6 : List Str} {sub6 : List Value} {ab6 : Bool} {col6 : Option Bool} {dd6 : Option Addr} {m06 m16 m26 m36 m56 : Option Value} {odx6 anx6 : Option Addr} {slx6 : Array (Option Value)} {ocx6 kVx6 dcx6 pmx6 ctx6 cdx6 : Value}
    (a0 : PySem.W.nsIn K mainGlobals "is_list" = some (some (.ref f0))) (l0 : K.lookup f0 = some ⟨oc0, od0, .func (PySem.W.fnOf "is_list" "is_list" (defArgs s_is_list) (defBody s_is_list) (defScope s_is_list) .none kV0 dc0 pm0 an0 cd0 ct0), sl0⟩) (c0 : PySem.W.codeIn K cd0 "is_list" = true) (k0 : PySem.W.keepIn K (.ref f0) = true)
    (a1 : PySem.W.nsIn K mainGlobals "is_whole" = some (some (.ref f1))) (l1 : K.lookup f1 = some ⟨oc1, od1, .func (PySem.W.fnOf "is_whole" "is_whole" (defArgs s_is_whole) (defBody s_is_whole) (defScope s_is_whole) .none kV1 dc1 pm1 an1 cd1 ct1), sl1⟩) (c1 : PySem.W.codeIn K cd1 "is_whole" = true) (k1 : PySem.W.keepIn K (.ref f1) = true)
    (a2 : PySem.W.nsIn K mainGlobals "is_number" = some (some (.ref f2))) (l2 : K.lookup f2 = some ⟨oc2, od2, .func (PySem.W.fnOf "is_number" "is_number" (defArgs s_is_number) (defBody s_is_number) (defScope s_is_number) .none kV2 dc2 pm2 an2 cd2 ct2), sl2⟩) (c2 : PySem.W.codeIn K cd2 "is_number" = true) (k2 : PySem.W.keepIn K (.ref f2) = true)
    (a3 : PySem.W.nsIn K mainGlobals "is_below" = some (some (.ref f3))) (l3 : K.lookup f3 = some ⟨oc3, od3, .func (PySem.W.fnOf "is_below" "is_below" (defArgs s_is_below) (defBody s_is_below) (defScope s_is_below) .none kV3 dc3 pm3 an3 cd3 ct3), sl3⟩) (c3 : PySem.W.codeIn K cd3 "is_below" = true) (k3 : PySem.W.keepIn K (.ref f3) = true)
    (a4 : PySem.W.nsIn K mainGlobals "is_row" = some (some (.ref f4))) (l4 : K.lookup f4 = some ⟨oc4, od4, .func (PySem.W.fnOf "is_row" "is_row" (defArgs s_is_row) (defBody s_is_row) (defScope s_is_row) .none kV4 dc4 pm4 an4 cd4 ct4), sl4⟩) (c4 : PySem.W.codeIn K cd4 "is_row" = true) (k4 : PySem.W.keepIn K (.ref f4) = true)
    (a5 : PySem.W.nsIn K mainGlobals "kept_word" = some (some (.ref f5))) (l5 : K.lookup f5 = some ⟨oc5, od5, .func (PySem.W.fnOf "kept_word" "kept_word" (defArgs s_kept_word) (defBody s_kept_word) (defScope s_kept_word) .none kV5 dc5 pm5 an5 cd5 ct5), sl5⟩) (c5 : PySem.W.codeIn K cd5 "kept_word" = true) (k5 : PySem.W.keepIn K (.ref f5) = true)
    (a6 : PySem.W.nsIn K mainGlobals "kept_pair" = some (some (.ref f6))) (l6 : K.lookup f6 = some ⟨oc6, od6, .func (PySem.W.fnOf "kept_pair" "kept_pair" (defArgs s_kept_pair) (defBody s_kept_pair) (defScope s_kept_pair) .none kV6 dc6 pm6 an6 cd6 ct6), sl6⟩) (c6 : PySem.W.codeIn K cd6 "kept_pair" = true) (k6 : PySem.W.keepIn K (.ref f6) = true)
    (a7 : PySem.W.nsIn K mainGlobals "check_sizes" = some (some (.ref f7))) (l7 : K.lookup f7 = some ⟨oc7, od7, .func (PySem.W.fnOf "check_sizes" "check_sizes" (defArgs s_check_sizes) (defBody s_check_sizes) (defScope s_check_sizes) .none kV7 dc7 pm7 an7 cd7 ct7), sl7⟩) (c7 : PySem.W.codeIn K cd7 "check_sizes" = true) (k7 : PySem.W.keepIn K (.ref f7) = true)
    (a8 : PySem.W.nsIn K mainGlobals "kept_moves" = some (some (.ref f8))) (l8 : K.lookup f8 = some ⟨oc8, od8, .func (PySem.W.fnOf "kept_moves" "kept_moves" (defArgs s_kept_moves) (defBody s_kept_moves) (defScope s_kept_moves) .none kV8 dc8 pm8 an8 cd8 ct8), sl8⟩) (c8 : PySem.W.codeIn K cd8 "kept_moves" = true) (k8 : PySem.W.keepIn K (.ref f8) = true)
    (a9 : PySem.W.nsIn K mainGlobals "kept_ends" = some (some (.ref f9))) (l9 : K.lookup f9 = some ⟨oc9, od9, .func (PySem.W.fnOf "kept_ends" "kept_ends" (defArgs s_kept_ends) (defBody s_kept_ends) (defScope s_kept_ends) .none kV9 dc9 pm9 an9 cd9 ct9), sl9⟩) (c9 : PySem.W.codeIn K cd9 "kept_ends" = true) (k9 : PySem.W.keepIn K (.ref f9) = true)
    (a10 : PySem.W.nsIn K mainGlobals "kept_reader" = some (some (.ref f10))) (l10 : K.lookup f10 = some ⟨oc10, od10, .func (PySem.W.fnOf "kept_reader" "kept_reader" (defArgs s_kept_reader) (defBody s_kept_reader) (defScope s_kept_reader) .none kV10 dc10 pm10 an10 cd10 ct10), sl10⟩) (c10 : PySem.W.codeIn K cd10 "kept_reader" = true) (k10 : PySem.W.keepIn K (.ref f10) = true)
    (a11 : PySem.W.nsIn K mainGlobals "need_reader" = some (some (.ref f11))) (l11 : K.lookup f11 = some ⟨oc11, od11, .func (PySem.W.fnOf "need_reader" "need_reader" (defArgs s_need_reader) (defBody s_need_reader) (defScope s_need_reader) .none kV11 dc11 pm11 an11 cd11 ct11), sl11⟩) (c11 : PySem.W.codeIn K cd11 "need_reader" = true) (k11 : PySem.W.keepIn K (.ref f11) = true)
    (a12 : PySem.W.nsIn K mainGlobals "told_reader" = some (some (.ref f12))) (l12 : K.lookup f12 = some ⟨oc12, od12, .func (PySem.W.fnOf "told_reader" "told_reader" (defArgs s_told_reader) (defBody s_told_reader) (defScope s_told_reader) .none kV12 dc12 pm12 an12 cd12 ct12), sl12⟩) (c12 : PySem.W.codeIn K cd12 "told_reader" = true) (k12 : PySem.W.keepIn K (.ref f12) = true)
    (a13 : PySem.W.nsIn K mainGlobals "least_of" = some (some (.ref f13))) (l13 : K.lookup f13 = some ⟨oc13, od13, .func (PySem.W.fnOf "least_of" "least_of" (defArgs s_least_of) (defBody s_least_of) (defScope s_least_of) .none kV13 dc13 pm13 an13 cd13 ct13), sl13⟩) (c13 : PySem.W.codeIn K cd13 "least_of" = true) (k13 : PySem.W.keepIn K (.ref f13) = true)
    (a14 : PySem.W.nsIn K mainGlobals "kept_sample" = some (some (.ref f14))) (l14 : K.lookup f14 = some ⟨oc14, od14, .func (PySem.W.fnOf "kept_sample" "kept_sample" (defArgs s_kept_sample) (defBody s_kept_sample) (defScope s_kept_sample) .none kV14 dc14 pm14 an14 cd14 ct14), sl14⟩) (c14 : PySem.W.codeIn K cd14 "kept_sample" = true) (k14 : PySem.W.keepIn K (.ref f14) = true)
    (a15 : PySem.W.nsIn K mainGlobals "need_sample" = some (some (.ref f15))) (l15 : K.lookup f15 = some ⟨oc15, od15, .func (PySem.W.fnOf "need_sample" "need_sample" (defArgs s_need_sample) (defBody s_need_sample) (defScope s_need_sample) .none kV15 dc15 pm15 an15 cd15 ct15), sl15⟩) (c15 : PySem.W.codeIn K cd15 "need_sample" = true) (k15 : PySem.W.keepIn K (.ref f15) = true)
    (a16 : PySem.W.nsIn K mainGlobals "is_fitting" = some (some (.ref f16))) (l16 : K.lookup f16 = some ⟨oc16, od16, .func (PySem.W.fnOf "is_fitting" "is_fitting" (defArgs s_is_fitting) (defBody s_is_fitting) (defScope s_is_fitting) .none kV16 dc16 pm16 an16 cd16 ct16), sl16⟩) (c16 : PySem.W.codeIn K cd16 "is_fitting" = true) (k16 : PySem.W.keepIn K (.ref f16) = true)
    (a17 : PySem.W.nsIn K mainGlobals "tree_of" = some (some (.ref f17))) (l17 : K.lookup f17 = some ⟨oc17, od17, .func (PySem.W.fnOf "tree_of" "tree_of" (defArgs s_tree_of) (defBody s_tree_of) (defScope s_tree_of) .none kV17 dc17 pm17 an17 cd17 ct17), sl17⟩) (c17 : PySem.W.codeIn K cd17 "tree_of" = true) (k17 : PySem.W.keepIn K (.ref f17) = true)
    (a18 : PySem.W.nsIn K mainGlobals "fitting" = some (some (.ref f18))) (l18 : K.lookup f18 = some ⟨oc18, od18, .func (PySem.W.fnOf "fitting" "fitting" (defArgs s_fitting) (defBody s_fitting) (defScope s_fitting) .none kV18 dc18 pm18 an18 cd18 ct18), sl18⟩) (c18 : PySem.W.codeIn K cd18 "fitting" = true) (k18 : PySem.W.keepIn K (.ref f18) = true)
    (a19 : PySem.W.nsIn K mainGlobals "need_all" = some (some (.ref f19))) (l19 : K.lookup f19 = some ⟨oc19, od19, .func (PySem.W.fnOf "need_all" "need_all" (defArgs s_need_all) (defBody s_need_all) (defScope s_need_all) .none kV19 dc19 pm19 an19 cd19 ct19), sl19⟩) (c19 : PySem.W.codeIn K cd19 "need_all" = true) (k19 : PySem.W.keepIn K (.ref f19) = true)
    (a20 : PySem.W.nsIn K mainGlobals "is_sample" = some (some (.ref f20))) (l20 : K.lookup f20 = some ⟨oc20, od20, .func (PySem.W.fnOf "is_sample" "is_sample" (defArgs s_is_sample) (defBody s_is_sample) (defScope s_is_sample) .none kV20 dc20 pm20 an20 cd20 ct20), sl20⟩) (c20 : PySem.W.codeIn K cd20 "is_sample" = true) (k20 : PySem.W.keepIn K (.ref f20) = true)
    (a21 : PySem.W.nsIn K mainGlobals "fits" = some (some (.ref f21))) (l21 : K.lookup f21 = some ⟨oc21, od21, .func (PySem.W.fnOf "fits" "fits" (defArgs s_fits) (defBody s_fits) (defScope s_fits) .none kV21 dc21 pm21 an21 cd21 ct21), sl21⟩) (c21 : PySem.W.codeIn K cd21 "fits" = true) (k21 : PySem.W.keepIn K (.ref f21) = true)
    (a22 : PySem.W.nsIn K mainGlobals "tree_reader" = some (some (.ref f22))) (l22 : K.lookup f22 = some ⟨oc22, od22, .func (PySem.W.fnOf "tree_reader" "tree_reader" (defArgs s_tree_reader) (defBody s_tree_reader) (defScope s_tree_reader) .none kV22 dc22 pm22 an22 cd22 ct22), sl22⟩) (c22 : PySem.W.codeIn K cd22 "tree_reader" = true) (k22 : PySem.W.keepIn K (.ref f22) = true)
    (a23 : PySem.W.nsIn K mainGlobals "all_fitting" = some (some (.ref f23))) (l23 : K.lookup f23 = some ⟨oc23, od23, .func (PySem.W.fnOf "all_fitting" "all_fitting" (defArgs s_all_fitting) (defBody s_all_fitting) (defScope s_all_fitting) .none kV23 dc23 pm23 an23 cd23 ct23), sl23⟩) (c23 : PySem.W.codeIn K cd23 "all_fitting" = true) (k23 : PySem.W.keepIn K (.ref f23) = true)
    (a24 : PySem.W.nsIn K mainGlobals "agreed" = some (some (.ref f24))) (l24 : K.lookup f24 = some ⟨oc24, od24, .func (PySem.W.fnOf "agreed" "agreed" (defArgs s_agreed) (defBody s_agreed) (defScope s_agreed) .none kV24 dc24 pm24 an24 cd24 ct24), sl24⟩) (c24 : PySem.W.codeIn K cd24 "agreed" = true) (k24 : PySem.W.keepIn K (.ref f24) = true)
    (a25 : PySem.W.nsIn K mainGlobals "_law_stream" = some (some (.ref f25))) (l25 : K.lookup f25 = some ⟨oc25, od25, .func (PySem.W.fnOf "_law_stream" "_law_stream" (defArgs s__law_stream) (defBody s__law_stream) (defScope s__law_stream) .none kV25 dc25 pm25 an25 cd25 ct25), sl25⟩) (c25 : PySem.W.codeIn K cd25 "_law_stream" = true) (k25 : PySem.W.keepIn K (.ref f25) = true)
    (a26 : PySem.W.nsIn K mainGlobals "_law_draw" = some (some (.ref f26))) (l26 : K.lookup f26 = some ⟨oc26, od26, .func (PySem.W.fnOf "_law_draw" "_law_draw" (defArgs s__law_draw) (defBody s__law_draw) (defScope s__law_draw) .none kV26 dc26 pm26 an26 cd26 ct26), sl26⟩) (c26 : PySem.W.codeIn K cd26 "_law_draw" = true) (k26 : PySem.W.keepIn K (.ref f26) = true)
    (a27 : PySem.W.nsIn K mainGlobals "_law_pick" = some (some (.ref f27))) (l27 : K.lookup f27 = some ⟨oc27, od27, .func (PySem.W.fnOf "_law_pick" "_law_pick" (defArgs s__law_pick) (defBody s__law_pick) (defScope s__law_pick) .none kV27 dc27 pm27 an27 cd27 ct27), sl27⟩) (c27 : PySem.W.codeIn K cd27 "_law_pick" = true) (k27 : PySem.W.keepIn K (.ref f27) = true)
    (a28 : PySem.W.nsIn K mainGlobals "_law_same" = some (some (.ref f28))) (l28 : K.lookup f28 = some ⟨oc28, od28, .func (PySem.W.fnOf "_law_same" "_law_same" (defArgs s__law_same) (defBody s__law_same) (defScope s__law_same) .none kV28 dc28 pm28 an28 cd28 ct28), sl28⟩) (c28 : PySem.W.codeIn K cd28 "_law_same" = true) (k28 : PySem.W.keepIn K (.ref f28) = true)
    (a29 : PySem.W.nsIn K mainGlobals "_law_copied" = some (some (.ref f29))) (l29 : K.lookup f29 = some ⟨oc29, od29, .func (PySem.W.fnOf "_law_copied" "_law_copied" (defArgs s__law_copied) (defBody s__law_copied) (defScope s__law_copied) .none kV29 dc29 pm29 an29 cd29 ct29), sl29⟩) (c29 : PySem.W.codeIn K cd29 "_law_copied" = true) (k29 : PySem.W.keepIn K (.ref f29) = true)
    (a30 : PySem.W.nsIn K mainGlobals "_law_is_very" = some (some (.ref f30))) (l30 : K.lookup f30 = some ⟨oc30, od30, .func (PySem.W.fnOf "_law_is_very" "_law_is_very" (defArgs s__law_is_very) (defBody s__law_is_very) (defScope s__law_is_very) .none kV30 dc30 pm30 an30 (.ref q1) ct30), sl30⟩) (c30 : PySem.W.codeIn K (.ref q1) "_law_is_very" = true) (k30 : PySem.W.keepIn K (.ref f30) = true)
    (a31 : PySem.W.nsIn K mainGlobals "_law_said" = some (some (.ref f31))) (l31 : K.lookup f31 = some ⟨oc31, od31, .func (PySem.W.fnOf "_law_said" "_law_said" (defArgs s__law_said) (defBody s__law_said) (defScope s__law_said) .none kV31 dc31 pm31 an31 cd31 ct31), sl31⟩) (c31 : PySem.W.codeIn K cd31 "_law_said" = true) (k31 : PySem.W.keepIn K (.ref f31) = true)
    (a32 : PySem.W.nsIn K mainGlobals "_law_reader" = some (some (.ref f32))) (l32 : K.lookup f32 = some ⟨oc32, od32, .func (PySem.W.fnOf "_law_reader" "_law_reader" (defArgs s__law_reader) (defBody s__law_reader) (defScope s__law_reader) .none kV32 dc32 pm32 an32 cd32 ct32), sl32⟩) (c32 : PySem.W.codeIn K cd32 "_law_reader" = true) (k32 : PySem.W.keepIn K (.ref f32) = true)
    (a33 : PySem.W.nsIn K mainGlobals "_law_w_odd_word" = some (some (.ref f33))) (l33 : K.lookup f33 = some ⟨oc33, od33, .func (PySem.W.fnOf "_law_w_odd_word" "_law_w_odd_word" (defArgs s__law_w_odd_word) (defBody s__law_w_odd_word) (defScope s__law_w_odd_word) .none kV33 dc33 pm33 an33 cd33 ct33), sl33⟩) (c33 : PySem.W.codeIn K cd33 "_law_w_odd_word" = true) (k33 : PySem.W.keepIn K (.ref f33) = true)
    (a34 : PySem.W.nsIn K mainGlobals "_law_met" = some (some (.ref f34))) (l34 : K.lookup f34 = some ⟨oc34, od34, .func (PySem.W.fnOf "_law_met" "_law_met" (defArgs s__law_met) (defBody s__law_met) (defScope s__law_met) .none kV34 dc34 pm34 an34 cd34 ct34), sl34⟩) (c34 : PySem.W.codeIn K cd34 "_law_met" = true) (k34 : PySem.W.keepIn K (.ref f34) = true)
    (a35 : PySem.W.nsIn K mainGlobals "_law_all_met" = some (some (.ref f35))) (l35 : K.lookup f35 = some ⟨oc35, od35, .func (PySem.W.fnOf "_law_all_met" "_law_all_met" (defArgs s__law_all_met) (defBody s__law_all_met) (defScope s__law_all_met) .none kV35 dc35 pm35 an35 cd35 ct35), sl35⟩) (c35 : PySem.W.codeIn K cd35 "_law_all_met" = true) (k35 : PySem.W.keepIn K (.ref f35) = true)
    (a36 : PySem.W.nsIn K mainGlobals "_law_of_sizes" = some (some (.ref f36))) (l36 : K.lookup f36 = some ⟨oc36, od36, .func (PySem.W.fnOf "_law_of_sizes" "_law_of_sizes" (defArgs s__law_of_sizes) (defBody s__law_of_sizes) (defScope s__law_of_sizes) .none kV36 dc36 pm36 an36 (.ref q2) ct36), sl36⟩) (c36 : PySem.W.codeIn K (.ref q2) "_law_of_sizes" = true) (k36 : PySem.W.keepIn K (.ref f36) = true)
    (a37 : PySem.W.nsIn K mainGlobals "_law_of_stands" = some (some (.ref f37))) (l37 : K.lookup f37 = some ⟨oc37, od37, .func (PySem.W.fnOf "_law_of_stands" "_law_of_stands" (defArgs s__law_of_stands) (defBody s__law_of_stands) (defScope s__law_of_stands) .none kV37 dc37 pm37 an37 (.ref q3) ct37), sl37⟩) (c37 : PySem.W.codeIn K (.ref q3) "_law_of_stands" = true) (k37 : PySem.W.keepIn K (.ref f37) = true)
    (a38 : PySem.W.nsIn K mainGlobals "law" = some (some (.ref f38))) (l38 : K.lookup f38 = some ⟨oc38, od38, .func (PySem.W.fnOf "law" "law" (defArgs s_law) (defBody s_law) (defScope s_law) .none kV38 dc38 pm38 an38 (.ref q0) ct38), sl38⟩) (c38 : PySem.W.codeIn K (.ref q0) "law" = true) (k38 : PySem.W.keepIn K (.ref f38) = true)
    (u0 : K.lookup q0 = some ⟨.type "code", oq0, .fields vq0, sq0⟩) (v0 : vq0[11]? = some (.ref r0)) (x0 : PySem.W.codeHdIn K q0 r0 = true) (y0 : K.lookup r0 = none) (t0 : h.get? r0 = some { cls := .none, data := .fields #[] })
    (u1 : K.lookup q1 = some ⟨.type "code", oq1, .fields vq1, sq1⟩) (v1 : vq1[11]? = some (.ref r1)) (x1 : PySem.W.codeHdIn K q1 r1 = true) (y1 : K.lookup r1 = none) (t1 : h.get? r1 = some { cls := .none, data := .fields #[] })
    (u2 : K.lookup q2 = some ⟨.type "code", oq2, .fields vq2, sq2⟩) (v2 : vq2[11]? = some (.ref r2)) (x2 : PySem.W.codeHdIn K q2 r2 = true) (y2 : K.lookup r2 = none) (t2 : h.get? r2 = some { cls := .none, data := .fields #[] })
    (u3 : K.lookup q3 = some ⟨.type "code", oq3, .fields vq3, sq3⟩) (v3 : vq3[11]? = some (.ref r3)) (x3 : PySem.W.codeHdIn K q3 r3 = true) (y3 : K.lookup r3 = none) (t3 : h.get? r3 = some { cls := .none, data := .fields #[] })
    (n1_0 : r1 ≠ r0)
    (n2_0 : r2 ≠ r0)
    (n2_1 : r2 ≠ r1)
    (n3_0 : r3 ≠ r0)
    (n3_1 : r3 ≠ r1)
    (n3_2 : r3 ≠ r2)
    (aC0 : PySem.W.nsIn K mainGlobals "BadLetters" = some (some (.ref C0))) (xL0 : K.lookup C0 = some (excClassObj nm0 qq0 C0 N0 bs0 bm0 true sn0 sub0 ab0 col0 dd0 m00 m10 m20 m30 m50 "ValueError.__new__")) (bmC0 : PySem.HandSPX.refsVE bm0 = true)
    (sa0 : PySem.W.findIn K (.ref C0) "__setattr__" = some (some (.builtin "object.__setattr__"))) (eC0 : PySem.W.subIn K (.ref C0) (.type "BaseException") = some true) (tC0 : PySem.W.typeIn K (.ref C0) = some (.type "type")) (kC0 : PySem.W.keepIn K (.ref C0) = true)
    (ga0 : PySem.W.findIn K (.ref C0) "__getattribute__" = some (some (.builtin "BaseException.__getattribute__"))) (gg0 : PySem.W.findIn K (.ref C0) "__getattr__" = some none) (hC0 : PySem.W.hasDictIn K C0 = true) (nb0 : PySem.W.findIn K (.ref C0) "letters" = some none)
    (ai0 : PySem.W.findIn K (.ref C0) "__init__" = some (some (.ref g0))) (ti0 : PySem.W.typeIn K (.ref g0) = some (.type "function"))
    (li0 : K.lookup g0 = some ⟨ocx0, odx0, .func (PySem.W.fnOf "__init__" "BadLetters.__init__" (defArgs i_BadLetters) (defBody i_BadLetters) (defScope i_BadLetters) .none kVx0 dcx0 pmx0 anx0 cdx0 ctx0), slx0⟩) (ci0 : PySem.W.codeIn K cdx0 "BadLetters.__init__" = true) (ki0 : PySem.W.keepIn K (.ref g0) = true) (ss0 : PySem.W.subIn K (.ref C0) (.ref C0) = some true)
    (aC1 : PySem.W.nsIn K mainGlobals "BadSigns" = some (some (.ref C1))) (xL1 : K.lookup C1 = some (excClassObj nm1 qq1 C1 N1 bs1 bm1 true sn1 sub1 ab1 col1 dd1 m01 m11 m21 m31 m51 "ValueError.__new__")) (bmC1 : PySem.HandSPX.refsVE bm1 = true)
    (sa1 : PySem.W.findIn K (.ref C1) "__setattr__" = some (some (.builtin "object.__setattr__"))) (eC1 : PySem.W.subIn K (.ref C1) (.type "BaseException") = some true) (tC1 : PySem.W.typeIn K (.ref C1) = some (.type "type")) (kC1 : PySem.W.keepIn K (.ref C1) = true)
    (ga1 : PySem.W.findIn K (.ref C1) "__getattribute__" = some (some (.builtin "BaseException.__getattribute__"))) (gg1 : PySem.W.findIn K (.ref C1) "__getattr__" = some none) (hC1 : PySem.W.hasDictIn K C1 = true) (nb1 : PySem.W.findIn K (.ref C1) "signs" = some none)
    (ai1 : PySem.W.findIn K (.ref C1) "__init__" = some (some (.ref g1))) (ti1 : PySem.W.typeIn K (.ref g1) = some (.type "function"))
    (li1 : K.lookup g1 = some ⟨ocx1, odx1, .func (PySem.W.fnOf "__init__" "BadSigns.__init__" (defArgs i_BadSigns) (defBody i_BadSigns) (defScope i_BadSigns) .none kVx1 dcx1 pmx1 anx1 cdx1 ctx1), slx1⟩) (ci1 : PySem.W.codeIn K cdx1 "BadSigns.__init__" = true) (ki1 : PySem.W.keepIn K (.ref g1) = true) (ss1 : PySem.W.subIn K (.ref C1) (.ref C1) = some true)
    (aC2 : PySem.W.nsIn K mainGlobals "BadStands" = some (some (.ref C2))) (xL2 : K.lookup C2 = some (excClassObj nm2 qq2 C2 N2 bs2 bm2 true sn2 sub2 ab2 col2 dd2 m02 m12 m22 m32 m52 "ValueError.__new__")) (bmC2 : PySem.HandSPX.refsVE bm2 = true)
    (sa2 : PySem.W.findIn K (.ref C2) "__setattr__" = some (some (.builtin "object.__setattr__"))) (eC2 : PySem.W.subIn K (.ref C2) (.type "BaseException") = some true) (tC2 : PySem.W.typeIn K (.ref C2) = some (.type "type")) (kC2 : PySem.W.keepIn K (.ref C2) = true)
    (ga2 : PySem.W.findIn K (.ref C2) "__getattribute__" = some (some (.builtin "BaseException.__getattribute__"))) (gg2 : PySem.W.findIn K (.ref C2) "__getattr__" = some none) (hC2 : PySem.W.hasDictIn K C2 = true) (nb2 : PySem.W.findIn K (.ref C2) "stands" = some none)
    (ai2 : PySem.W.findIn K (.ref C2) "__init__" = some (some (.ref g2))) (ti2 : PySem.W.typeIn K (.ref g2) = some (.type "function"))
    (li2 : K.lookup g2 = some ⟨ocx2, odx2, .func (PySem.W.fnOf "__init__" "BadStands.__init__" (defArgs i_BadStands) (defBody i_BadStands) (defScope i_BadStands) .none kVx2 dcx2 pmx2 anx2 cdx2 ctx2), slx2⟩) (ci2 : PySem.W.codeIn K cdx2 "BadStands.__init__" = true) (ki2 : PySem.W.keepIn K (.ref g2) = true) (ss2 : PySem.W.subIn K (.ref C2) (.ref C2) = some true)
    (aC3 : PySem.W.nsIn K mainGlobals "BadMost" = some (some (.ref C3))) (xL3 : K.lookup C3 = some (excClassObj nm3 qq3 C3 N3 bs3 bm3 true sn3 sub3 ab3 col3 dd3 m03 m13 m23 m33 m53 "ValueError.__new__")) (bmC3 : PySem.HandSPX.refsVE bm3 = true)
    (sa3 : PySem.W.findIn K (.ref C3) "__setattr__" = some (some (.builtin "object.__setattr__"))) (eC3 : PySem.W.subIn K (.ref C3) (.type "BaseException") = some true) (tC3 : PySem.W.typeIn K (.ref C3) = some (.type "type")) (kC3 : PySem.W.keepIn K (.ref C3) = true)
    (ga3 : PySem.W.findIn K (.ref C3) "__getattribute__" = some (some (.builtin "BaseException.__getattribute__"))) (gg3 : PySem.W.findIn K (.ref C3) "__getattr__" = some none) (hC3 : PySem.W.hasDictIn K C3 = true) (nb3 : PySem.W.findIn K (.ref C3) "most" = some none)
    (ai3 : PySem.W.findIn K (.ref C3) "__init__" = some (some (.ref g3))) (ti3 : PySem.W.typeIn K (.ref g3) = some (.type "function"))
    (li3 : K.lookup g3 = some ⟨ocx3, odx3, .func (PySem.W.fnOf "__init__" "BadMost.__init__" (defArgs i_BadMost) (defBody i_BadMost) (defScope i_BadMost) .none kVx3 dcx3 pmx3 anx3 cdx3 ctx3), slx3⟩) (ci3 : PySem.W.codeIn K cdx3 "BadMost.__init__" = true) (ki3 : PySem.W.keepIn K (.ref g3) = true) (ss3 : PySem.W.subIn K (.ref C3) (.ref C3) = some true)
    (aC4 : PySem.W.nsIn K mainGlobals "BadReader" = some (some (.ref C4))) (xL4 : K.lookup C4 = some (excClassObj nm4 qq4 C4 N4 bs4 bm4 true sn4 sub4 ab4 col4 dd4 m04 m14 m24 m34 m54 "ValueError.__new__")) (bmC4 : PySem.HandSPX.refsVE bm4 = true)
    (sa4 : PySem.W.findIn K (.ref C4) "__setattr__" = some (some (.builtin "object.__setattr__"))) (eC4 : PySem.W.subIn K (.ref C4) (.type "BaseException") = some true) (tC4 : PySem.W.typeIn K (.ref C4) = some (.type "type")) (kC4 : PySem.W.keepIn K (.ref C4) = true)
    (ga4 : PySem.W.findIn K (.ref C4) "__getattribute__" = some (some (.builtin "BaseException.__getattribute__"))) (gg4 : PySem.W.findIn K (.ref C4) "__getattr__" = some none) (hC4 : PySem.W.hasDictIn K C4 = true) (nb4 : PySem.W.findIn K (.ref C4) "reader" = some none)
    (ai4 : PySem.W.findIn K (.ref C4) "__init__" = some (some (.ref g4))) (ti4 : PySem.W.typeIn K (.ref g4) = some (.type "function"))
    (li4 : K.lookup g4 = some ⟨ocx4, odx4, .func (PySem.W.fnOf "__init__" "BadReader.__init__" (defArgs i_BadReader) (defBody i_BadReader) (defScope i_BadReader) .none kVx4 dcx4 pmx4 anx4 cdx4 ctx4), slx4⟩) (ci4 : PySem.W.codeIn K cdx4 "BadReader.__init__" = true) (ki4 : PySem.W.keepIn K (.ref g4) = true) (ss4 : PySem.W.subIn K (.ref C4) (.ref C4) = some true)
    (aC5 : PySem.W.nsIn K mainGlobals "BadSample" = some (some (.ref C5))) (xL5 : K.lookup C5 = some (excClassObj nm5 qq5 C5 N5 bs5 bm5 true sn5 sub5 ab5 col5 dd5 m05 m15 m25 m35 m55 "ValueError.__new__")) (bmC5 : PySem.HandSPX.refsVE bm5 = true)
    (sa5 : PySem.W.findIn K (.ref C5) "__setattr__" = some (some (.builtin "object.__setattr__"))) (eC5 : PySem.W.subIn K (.ref C5) (.type "BaseException") = some true) (tC5 : PySem.W.typeIn K (.ref C5) = some (.type "type")) (kC5 : PySem.W.keepIn K (.ref C5) = true)
    (ga5 : PySem.W.findIn K (.ref C5) "__getattribute__" = some (some (.builtin "BaseException.__getattribute__"))) (gg5 : PySem.W.findIn K (.ref C5) "__getattr__" = some none) (hC5 : PySem.W.hasDictIn K C5 = true) (nb5 : PySem.W.findIn K (.ref C5) "sample" = some none)
    (ai5 : PySem.W.findIn K (.ref C5) "__init__" = some (some (.ref g5))) (ti5 : PySem.W.typeIn K (.ref g5) = some (.type "function"))
    (li5 : K.lookup g5 = some ⟨ocx5, odx5, .func (PySem.W.fnOf "__init__" "BadSample.__init__" (defArgs i_BadSample) (defBody i_BadSample) (defScope i_BadSample) .none kVx5 dcx5 pmx5 anx5 cdx5 ctx5), slx5⟩) (ci5 : PySem.W.codeIn K cdx5 "BadSample.__init__" = true) (ki5 : PySem.W.keepIn K (.ref g5) = true) (ss5 : PySem.W.subIn K (.ref C5) (.ref C5) = some true)
    (aC6 : PySem.W.nsIn K mainGlobals "BadWord" = some (some (.ref C6))) (xL6 : K.lookup C6 = some (excClassObj nm6 qq6 C6 N6 bs6 bm6 true sn6 sub6 ab6 col6 dd6 m06 m16 m26 m36 m56 "ValueError.__new__")) (bmC6 : PySem.HandSPX.refsVE bm6 = true)
    (sa6 : PySem.W.findIn K (.ref C6) "__setattr__" = some (some (.builtin "object.__setattr__"))) (eC6 : PySem.W.subIn K (.ref C6) (.type "BaseException") = some true) (tC6 : PySem.W.typeIn K (.ref C6) = some (.type "type")) (kC6 : PySem.W.keepIn K (.ref C6) = true)
    (ga6 : PySem.W.findIn K (.ref C6) "__getattribute__" = some (some (.builtin "BaseException.__getattribute__"))) (gg6 : PySem.W.findIn K (.ref C6) "__getattr__" = some none) (hC6 : PySem.W.hasDictIn K C6 = true) (nb6 : PySem.W.findIn K (.ref C6) "word" = some none)
    (ai6 : PySem.W.findIn K (.ref C6) "__init__" = some (some (.ref g6))) (ti6 : PySem.W.typeIn K (.ref g6) = some (.type "function"))
    (li6 : K.lookup g6 = some ⟨ocx6, odx6, .func (PySem.W.fnOf "__init__" "BadWord.__init__" (defArgs i_BadWord) (defBody i_BadWord) (defScope i_BadWord) .none kVx6 dcx6 pmx6 anx6 cdx6 ctx6), slx6⟩) (ci6 : PySem.W.codeIn K cdx6 "BadWord.__init__" = true) (ki6 : PySem.W.keepIn K (.ref g6) = true) (ss6 : PySem.W.subIn K (.ref C6) (.ref C6) = some true)
    (sf1_0 : PySem.W.subIn K (.ref C1) (.ref C0) = some false)
    (sf2_0 : PySem.W.subIn K (.ref C2) (.ref C0) = some false)
    (sf2_1 : PySem.W.subIn K (.ref C2) (.ref C1) = some false)
    (sf3_0 : PySem.W.subIn K (.ref C3) (.ref C0) = some false)
    (sf3_1 : PySem.W.subIn K (.ref C3) (.ref C1) = some false)
    (sf3_2 : PySem.W.subIn K (.ref C3) (.ref C2) = some false)
    (sf4_0 : PySem.W.subIn K (.ref C4) (.ref C0) = some false)
    (sf4_1 : PySem.W.subIn K (.ref C4) (.ref C1) = some false)
    (sf4_2 : PySem.W.subIn K (.ref C4) (.ref C2) = some false)
    (sf4_3 : PySem.W.subIn K (.ref C4) (.ref C3) = some false)
    (sf5_0 : PySem.W.subIn K (.ref C5) (.ref C0) = some false)
    (sf5_1 : PySem.W.subIn K (.ref C5) (.ref C1) = some false)
    (sf5_2 : PySem.W.subIn K (.ref C5) (.ref C2) = some false)
    (sf5_3 : PySem.W.subIn K (.ref C5) (.ref C3) = some false)
    (sf5_4 : PySem.W.subIn K (.ref C5) (.ref C4) = some false)
    (sf6_0 : PySem.W.subIn K (.ref C6) (.ref C0) = some false)
    (sf6_1 : PySem.W.subIn K (.ref C6) (.ref C1) = some false)
    (sf6_2 : PySem.W.subIn K (.ref C6) (.ref C2) = some false)
    (sf6_3 : PySem.W.subIn K (.ref C6) (.ref C3) = some false)
    (sf6_4 : PySem.W.subIn K (.ref C6) (.ref C4) = some false)
    (sf6_5 : PySem.W.subIn K (.ref C6) (.ref C5) = some false)
    (z0 : PySem.W.nsIn K mainGlobals "isinstance" = some none) (z1 : PySem.W.nsIn K mainGlobals "list" = some none) (z2 : PySem.W.nsIn K mainGlobals "tuple" = some none) (z3 : PySem.W.nsIn K mainGlobals "int" = some none) (z4 : PySem.W.nsIn K mainGlobals "bool" = some none) (z5 : PySem.W.nsIn K mainGlobals "str" = some none) (z6 : PySem.W.nsIn K mainGlobals "dict" = some none) (z7 : PySem.W.nsIn K mainGlobals "len" = some none) (z8 : PySem.W.nsIn K mainGlobals "all" = some none) (z9 : PySem.W.nsIn K mainGlobals "any" = some none) (z10 : PySem.W.nsIn K mainGlobals "zip" = some none) (z11 : PySem.W.nsIn K mainGlobals "range" = some none) (z12 : PySem.W.nsIn K mainGlobals "sorted" = some none) (z13 : PySem.W.nsIn K mainGlobals "abs" = some none) :
    LamX.LawAtS l w K CX0 18 63 "script" mg fa h := by
  have e := hfa.symm.trans (PySem.W.mg_of X G a38)
  cases e
  have bi : ∀ x ∈ BI, mg x = none := fun x hx => by
    simp only [BI, List.mem_cons, List.not_mem_nil, or_false] at hx
    rcases hx with rfl | rfl | rfl | rfl | rfl | rfl | rfl | rfl | rfl | rfl | rfl | rfl | rfl | rfl
    · exact PySem.W.mg_none_of X G z0
    · exact PySem.W.mg_none_of X G z1
    · exact PySem.W.mg_none_of X G z2
    · exact PySem.W.mg_none_of X G z3
    · exact PySem.W.mg_none_of X G z4
    · exact PySem.W.mg_none_of X G z5
    · exact PySem.W.mg_none_of X G z6
    · exact PySem.W.mg_none_of X G z7
    · exact PySem.W.mg_none_of X G z8
    · exact PySem.W.mg_none_of X G z9
    · exact PySem.W.mg_none_of X G z10
    · exact PySem.W.mg_none_of X G z11
    · exact PySem.W.mg_none_of X G z12
    · exact PySem.W.mg_none_of X G z13
  have F0 := fun_mk (st := s_is_list) l0 c0 k0
  have b0 := F0.binds (ps := ps_is_list) fun _ _ _ _ _ _ us hl => match us, hl with | [_], _ => rfl
  have T0 : DefT K mg "is_list" s_is_list ps_is_list := ⟨_, _, F0, PySem.W.mg_of X G a0, b0⟩
  have F1 := fun_mk (st := s_is_whole) l1 c1 k1
  have b1 := F1.binds (ps := ps_is_whole) fun _ _ _ _ _ _ us hl => match us, hl with | [_], _ => rfl
  have T1 : DefT K mg "is_whole" s_is_whole ps_is_whole := ⟨_, _, F1, PySem.W.mg_of X G a1, b1⟩
  have F2 := fun_mk (st := s_is_number) l2 c2 k2
  have b2 := F2.binds (ps := ps_is_number) fun _ _ _ _ _ _ us hl => match us, hl with | [_], _ => rfl
  have T2 : DefT K mg "is_number" s_is_number ps_is_number := ⟨_, _, F2, PySem.W.mg_of X G a2, b2⟩
  have F3 := fun_mk (st := s_is_below) l3 c3 k3
  have b3 := F3.binds (ps := ps_is_below) fun _ _ _ _ _ _ us hl => match us, hl with | [_, _], _ => rfl
  have T3 : DefT K mg "is_below" s_is_below ps_is_below := ⟨_, _, F3, PySem.W.mg_of X G a3, b3⟩
  have F4 := fun_mk (st := s_is_row) l4 c4 k4
  have b4 := F4.binds (ps := ps_is_row) fun _ _ _ _ _ _ us hl => match us, hl with | [_, _], _ => rfl
  have T4 : DefT K mg "is_row" s_is_row ps_is_row := ⟨_, _, F4, PySem.W.mg_of X G a4, b4⟩
  have F5 := fun_mk (st := s_kept_word) l5 c5 k5
  have b5 := F5.binds (ps := ps_kept_word) fun _ _ _ _ _ _ us hl => match us, hl with | [_, _], _ => rfl
  have T5 : DefT K mg "kept_word" s_kept_word ps_kept_word := ⟨_, _, F5, PySem.W.mg_of X G a5, b5⟩
  have F6 := fun_mk (st := s_kept_pair) l6 c6 k6
  have b6 := F6.binds (ps := ps_kept_pair) fun _ _ _ _ _ _ us hl => match us, hl with | [_, _, _], _ => rfl
  have T6 : DefT K mg "kept_pair" s_kept_pair ps_kept_pair := ⟨_, _, F6, PySem.W.mg_of X G a6, b6⟩
  have F7 := fun_mk (st := s_check_sizes) l7 c7 k7
  have b7 := F7.binds (ps := ps_check_sizes) fun _ _ _ _ _ _ us hl => match us, hl with | [_, _], _ => rfl
  have T7 : DefT K mg "check_sizes" s_check_sizes ps_check_sizes := ⟨_, _, F7, PySem.W.mg_of X G a7, b7⟩
  have F8 := fun_mk (st := s_kept_moves) l8 c8 k8
  have b8 := F8.binds (ps := ps_kept_moves) fun _ _ _ _ _ _ us hl => match us, hl with | [_, _, _, _], _ => rfl
  have T8 : DefT K mg "kept_moves" s_kept_moves ps_kept_moves := ⟨_, _, F8, PySem.W.mg_of X G a8, b8⟩
  have F9 := fun_mk (st := s_kept_ends) l9 c9 k9
  have b9 := F9.binds (ps := ps_kept_ends) fun _ _ _ _ _ _ us hl => match us, hl with | [_, _, _], _ => rfl
  have T9 : DefT K mg "kept_ends" s_kept_ends ps_kept_ends := ⟨_, _, F9, PySem.W.mg_of X G a9, b9⟩
  have F10 := fun_mk (st := s_kept_reader) l10 c10 k10
  have b10 := F10.binds (ps := ps_kept_reader) fun _ _ _ _ _ _ us hl => match us, hl with | [_], _ => rfl
  have T10 : DefT K mg "kept_reader" s_kept_reader ps_kept_reader := ⟨_, _, F10, PySem.W.mg_of X G a10, b10⟩
  have F11 := fun_mk (st := s_need_reader) l11 c11 k11
  have b11 := F11.binds (ps := ps_need_reader) fun _ _ _ _ _ _ us hl => match us, hl with | [_], _ => rfl
  have T11 : DefT K mg "need_reader" s_need_reader ps_need_reader := ⟨_, _, F11, PySem.W.mg_of X G a11, b11⟩
  have F12 := fun_mk (st := s_told_reader) l12 c12 k12
  have b12 := F12.binds (ps := ps_told_reader) fun _ _ _ _ _ _ us hl => match us, hl with | [_], _ => rfl
  have T12 : DefT K mg "told_reader" s_told_reader ps_told_reader := ⟨_, _, F12, PySem.W.mg_of X G a12, b12⟩
  have F13 := fun_mk (st := s_least_of) l13 c13 k13
  have b13 := F13.binds (ps := ps_least_of) fun _ _ _ _ _ _ us hl => match us, hl with | [_], _ => rfl
  have T13 : DefT K mg "least_of" s_least_of ps_least_of := ⟨_, _, F13, PySem.W.mg_of X G a13, b13⟩
  have F14 := fun_mk (st := s_kept_sample) l14 c14 k14
  have b14 := F14.binds (ps := ps_kept_sample) fun _ _ _ _ _ _ us hl => match us, hl with | [_, _, _], _ => rfl
  have T14 : DefT K mg "kept_sample" s_kept_sample ps_kept_sample := ⟨_, _, F14, PySem.W.mg_of X G a14, b14⟩
  have F15 := fun_mk (st := s_need_sample) l15 c15 k15
  have b15 := F15.binds (ps := ps_need_sample) fun _ _ _ _ _ _ us hl => match us, hl with | [_, _, _], _ => rfl
  have T15 : DefT K mg "need_sample" s_need_sample ps_need_sample := ⟨_, _, F15, PySem.W.mg_of X G a15, b15⟩
  have F16 := fun_mk (st := s_is_fitting) l16 c16 k16
  have b16 := F16.binds (ps := ps_is_fitting) fun _ _ _ _ _ _ us hl => match us, hl with | [_, _], _ => rfl
  have T16 : DefT K mg "is_fitting" s_is_fitting ps_is_fitting := ⟨_, _, F16, PySem.W.mg_of X G a16, b16⟩
  have F17 := fun_mk (st := s_tree_of) l17 c17 k17
  have b17 := F17.binds (ps := ps_tree_of) fun _ _ _ _ _ _ us hl => match us, hl with | [_, _, _], _ => rfl
  have T17 : DefT K mg "tree_of" s_tree_of ps_tree_of := ⟨_, _, F17, PySem.W.mg_of X G a17, b17⟩
  have F18 := fun_mk (st := s_fitting) l18 c18 k18
  have b18 := F18.binds (ps := ps_fitting) fun _ _ _ _ _ _ us hl => match us, hl with | [_, _, _, _, _], _ => rfl
  have T18 : DefT K mg "fitting" s_fitting ps_fitting := ⟨_, _, F18, PySem.W.mg_of X G a18, b18⟩
  have F19 := fun_mk (st := s_need_all) l19 c19 k19
  have b19 := F19.binds (ps := ps_need_all) fun _ _ _ _ _ _ us hl => match us, hl with | [_, _, _, _, _], _ => rfl
  have T19 : DefT K mg "need_all" s_need_all ps_need_all := ⟨_, _, F19, PySem.W.mg_of X G a19, b19⟩
  have F20 := fun_mk (st := s_is_sample) l20 c20 k20
  have b20 := F20.binds (ps := ps_is_sample) fun _ _ _ _ _ _ us hl => match us, hl with | [_, _, _], _ => rfl
  have T20 : DefT K mg "is_sample" s_is_sample ps_is_sample := ⟨_, _, F20, PySem.W.mg_of X G a20, b20⟩
  have F21 := fun_mk (st := s_fits) l21 c21 k21
  have b21 := F21.binds (ps := ps_fits) fun _ _ _ _ _ _ us hl => match us, hl with | [_, _], _ => rfl
  have T21 : DefT K mg "fits" s_fits ps_fits := ⟨_, _, F21, PySem.W.mg_of X G a21, b21⟩
  have F22 := fun_mk (st := s_tree_reader) l22 c22 k22
  have b22 := F22.binds (ps := ps_tree_reader) fun _ _ _ _ _ _ us hl => match us, hl with | [_, _, _], _ => rfl
  have T22 : DefT K mg "tree_reader" s_tree_reader ps_tree_reader := ⟨_, _, F22, PySem.W.mg_of X G a22, b22⟩
  have F23 := fun_mk (st := s_all_fitting) l23 c23 k23
  have b23 := F23.binds (ps := ps_all_fitting) fun _ _ _ _ _ _ us hl => match us, hl with | [_, _, _, _, _], _ => rfl
  have T23 : DefT K mg "all_fitting" s_all_fitting ps_all_fitting := ⟨_, _, F23, PySem.W.mg_of X G a23, b23⟩
  have F24 := fun_mk (st := s_agreed) l24 c24 k24
  have b24 := F24.binds (ps := ps_agreed) fun _ _ _ _ _ _ us hl => match us, hl with | [_, _, _, _, _, _], _ => rfl
  have T24 : DefT K mg "agreed" s_agreed ps_agreed := ⟨_, _, F24, PySem.W.mg_of X G a24, b24⟩
  have F25 := fun_mk (st := s__law_stream) l25 c25 k25
  have b25 := F25.binds (ps := ps__law_stream) fun _ _ _ _ _ _ us hl => match us, hl with | [_], _ => rfl
  have T25 : DefT K mg "_law_stream" s__law_stream ps__law_stream := ⟨_, _, F25, PySem.W.mg_of X G a25, b25⟩
  have F26 := fun_mk (st := s__law_draw) l26 c26 k26
  have b26 := F26.binds (ps := ps__law_draw) fun _ _ _ _ _ _ us hl => match us, hl with | [_, _], _ => rfl
  have T26 : DefT K mg "_law_draw" s__law_draw ps__law_draw := ⟨_, _, F26, PySem.W.mg_of X G a26, b26⟩
  have F27 := fun_mk (st := s__law_pick) l27 c27 k27
  have b27 := F27.binds (ps := ps__law_pick) fun _ _ _ _ _ _ us hl => match us, hl with | [_, _], _ => rfl
  have T27 : DefT K mg "_law_pick" s__law_pick ps__law_pick := ⟨_, _, F27, PySem.W.mg_of X G a27, b27⟩
  have F28 := fun_mk (st := s__law_same) l28 c28 k28
  have b28 := F28.binds (ps := ps__law_same) fun _ _ _ _ _ _ us hl => match us, hl with | [_, _], _ => rfl
  have T28 : DefT K mg "_law_same" s__law_same ps__law_same := ⟨_, _, F28, PySem.W.mg_of X G a28, b28⟩
  have F29 := fun_mk (st := s__law_copied) l29 c29 k29
  have b29 := F29.binds (ps := ps__law_copied) fun _ _ _ _ _ _ us hl => match us, hl with | [_], _ => rfl
  have T29 : DefT K mg "_law_copied" s__law_copied ps__law_copied := ⟨_, _, F29, PySem.W.mg_of X G a29, b29⟩
  have F30 := fun_mk (st := s__law_is_very) l30 c30 k30
  have b30 := F30.binds (ps := ps__law_is_very) fun _ _ _ _ _ _ us hl => match us, hl with | [_, _], _ => rfl
  have T30 : DefT K mg "_law_is_very" s__law_is_very ps__law_is_very := ⟨_, _, F30, PySem.W.mg_of X G a30, b30⟩
  have hc1 := fnc_of l30
  have F31 := fun_mk (st := s__law_said) l31 c31 k31
  have b31 := F31.binds (ps := ps__law_said) fun _ _ _ _ _ _ us hl => match us, hl with | [_, _, _], _ => rfl
  have T31 : DefT K mg "_law_said" s__law_said ps__law_said := ⟨_, _, F31, PySem.W.mg_of X G a31, b31⟩
  have F32 := fun_mk (st := s__law_reader) l32 c32 k32
  have b32 := F32.binds (ps := ps__law_reader) fun _ _ _ _ _ _ us hl => match us, hl with | [_, _, _, _], _ => rfl
  have T32 : DefT K mg "_law_reader" s__law_reader ps__law_reader := ⟨_, _, F32, PySem.W.mg_of X G a32, b32⟩
  have F33 := fun_mk (st := s__law_w_odd_word) l33 c33 k33
  have b33 := F33.binds (ps := ps__law_w_odd_word) fun _ _ _ _ _ _ us hl => match us, hl with | [_, _], _ => rfl
  have T33 : DefT K mg "_law_w_odd_word" s__law_w_odd_word ps__law_w_odd_word := ⟨_, _, F33, PySem.W.mg_of X G a33, b33⟩
  have F34 := fun_mk (st := s__law_met) l34 c34 k34
  have b34 := F34.binds (ps := ps__law_met) fun _ _ _ _ _ _ us hl => match us, hl with | [_], _ => rfl
  have T34 : DefT K mg "_law_met" s__law_met ps__law_met := ⟨_, _, F34, PySem.W.mg_of X G a34, b34⟩
  have F35 := fun_mk (st := s__law_all_met) l35 c35 k35
  have b35 := F35.binds (ps := ps__law_all_met) fun _ _ _ _ _ _ us hl => match us, hl with | [_, _], _ => rfl
  have T35 : DefT K mg "_law_all_met" s__law_all_met ps__law_all_met := ⟨_, _, F35, PySem.W.mg_of X G a35, b35⟩
  have F36 := fun_mk (st := s__law_of_sizes) l36 c36 k36
  have b36 := F36.binds (ps := ps__law_of_sizes) fun _ _ _ _ _ _ us hl => match us, hl with | [_, _], _ => rfl
  have T36 : DefT K mg "_law_of_sizes" s__law_of_sizes ps__law_of_sizes := ⟨_, _, F36, PySem.W.mg_of X G a36, b36⟩
  have hc2 := fnc_of l36
  have F37 := fun_mk (st := s__law_of_stands) l37 c37 k37
  have b37 := F37.binds (ps := ps__law_of_stands) fun _ _ _ _ _ _ us hl => match us, hl with | [_, _, _], _ => rfl
  have T37 : DefT K mg "_law_of_stands" s__law_of_stands ps__law_of_stands := ⟨_, _, F37, PySem.W.mg_of X G a37, b37⟩
  have hc3 := fnc_of l37
  have F38 := fun_mk (st := s_law) l38 c38 k38
  have b38 := F38.binds (ps := ps_law) fun _ _ _ _ _ _ us hl => match us, hl with | [_], _ => rfl
  have T38 : DefT K mg "law" s_law ps_law := ⟨_, _, F38, PySem.W.mg_of X G a38, b38⟩
  have hc0 := fnc_of l38
  have O0 : OexC K C0 := ⟨⟨nm0, qq0, N0, bs0, bm0, sn0, sub0, ab0, col0, dd0, m00, m10, m20, m30, m50, xL0, bmC0⟩, sa0, eC0, tC0, kC0⟩
  have Fi0 := fun_mk (st := i_BadLetters) li0 ci0 ki0
  have bi0 := Fi0.binds (ps := ["self", "letters"]) fun _ _ _ _ _ _ us hl => match us, hl with | [_, _], _ => rfl
  have ex0 : PySem.W.exmOne K (.ref C0) (.ref C0) = some true := PySem.W.exm_ref eC0 hC0 tC0 ss0
  have O1 : OexC K C1 := ⟨⟨nm1, qq1, N1, bs1, bm1, sn1, sub1, ab1, col1, dd1, m01, m11, m21, m31, m51, xL1, bmC1⟩, sa1, eC1, tC1, kC1⟩
  have Fi1 := fun_mk (st := i_BadSigns) li1 ci1 ki1
  have bi1 := Fi1.binds (ps := ["self", "signs"]) fun _ _ _ _ _ _ us hl => match us, hl with | [_, _], _ => rfl
  have ex1 : PySem.W.exmOne K (.ref C1) (.ref C1) = some true := PySem.W.exm_ref eC1 hC1 tC1 ss1
  have O2 : OexC K C2 := ⟨⟨nm2, qq2, N2, bs2, bm2, sn2, sub2, ab2, col2, dd2, m02, m12, m22, m32, m52, xL2, bmC2⟩, sa2, eC2, tC2, kC2⟩
  have Fi2 := fun_mk (st := i_BadStands) li2 ci2 ki2
  have bi2 := Fi2.binds (ps := ["self", "stands"]) fun _ _ _ _ _ _ us hl => match us, hl with | [_, _], _ => rfl
  have ex2 : PySem.W.exmOne K (.ref C2) (.ref C2) = some true := PySem.W.exm_ref eC2 hC2 tC2 ss2
  have O3 : OexC K C3 := ⟨⟨nm3, qq3, N3, bs3, bm3, sn3, sub3, ab3, col3, dd3, m03, m13, m23, m33, m53, xL3, bmC3⟩, sa3, eC3, tC3, kC3⟩
  have Fi3 := fun_mk (st := i_BadMost) li3 ci3 ki3
  have bi3 := Fi3.binds (ps := ["self", "most"]) fun _ _ _ _ _ _ us hl => match us, hl with | [_, _], _ => rfl
  have ex3 : PySem.W.exmOne K (.ref C3) (.ref C3) = some true := PySem.W.exm_ref eC3 hC3 tC3 ss3
  have O4 : OexC K C4 := ⟨⟨nm4, qq4, N4, bs4, bm4, sn4, sub4, ab4, col4, dd4, m04, m14, m24, m34, m54, xL4, bmC4⟩, sa4, eC4, tC4, kC4⟩
  have Fi4 := fun_mk (st := i_BadReader) li4 ci4 ki4
  have bi4 := Fi4.binds (ps := ["self", "reader"]) fun _ _ _ _ _ _ us hl => match us, hl with | [_, _], _ => rfl
  have ex4 : PySem.W.exmOne K (.ref C4) (.ref C4) = some true := PySem.W.exm_ref eC4 hC4 tC4 ss4
  have O5 : OexC K C5 := ⟨⟨nm5, qq5, N5, bs5, bm5, sn5, sub5, ab5, col5, dd5, m05, m15, m25, m35, m55, xL5, bmC5⟩, sa5, eC5, tC5, kC5⟩
  have Fi5 := fun_mk (st := i_BadSample) li5 ci5 ki5
  have bi5 := Fi5.binds (ps := ["self", "sample"]) fun _ _ _ _ _ _ us hl => match us, hl with | [_, _], _ => rfl
  have ex5 : PySem.W.exmOne K (.ref C5) (.ref C5) = some true := PySem.W.exm_ref eC5 hC5 tC5 ss5
  have O6 : OexC K C6 := ⟨⟨nm6, qq6, N6, bs6, bm6, sn6, sub6, ab6, col6, dd6, m06, m16, m26, m36, m56, xL6, bmC6⟩, sa6, eC6, tC6, kC6⟩
  have Fi6 := fun_mk (st := i_BadWord) li6 ci6 ki6
  have bi6 := Fi6.binds (ps := ["self", "word"]) fun _ _ _ _ _ _ us hl => match us, hl with | [_, _], _ => rfl
  have ex6 : PySem.W.exmOne K (.ref C6) (.ref C6) = some true := PySem.W.exm_ref eC6 hC6 tC6 ss6
  have ex1_0 : PySem.W.exmOne K (.ref C1) (.ref C0) = some false := PySem.W.exm_ref eC0 hC0 tC0 sf1_0
  have ex2_0 : PySem.W.exmOne K (.ref C2) (.ref C0) = some false := PySem.W.exm_ref eC0 hC0 tC0 sf2_0
  have ex2_1 : PySem.W.exmOne K (.ref C2) (.ref C1) = some false := PySem.W.exm_ref eC1 hC1 tC1 sf2_1
  have ex3_0 : PySem.W.exmOne K (.ref C3) (.ref C0) = some false := PySem.W.exm_ref eC0 hC0 tC0 sf3_0
  have ex3_1 : PySem.W.exmOne K (.ref C3) (.ref C1) = some false := PySem.W.exm_ref eC1 hC1 tC1 sf3_1
  have ex3_2 : PySem.W.exmOne K (.ref C3) (.ref C2) = some false := PySem.W.exm_ref eC2 hC2 tC2 sf3_2
  have ex4_0 : PySem.W.exmOne K (.ref C4) (.ref C0) = some false := PySem.W.exm_ref eC0 hC0 tC0 sf4_0
  have ex4_1 : PySem.W.exmOne K (.ref C4) (.ref C1) = some false := PySem.W.exm_ref eC1 hC1 tC1 sf4_1
  have ex4_2 : PySem.W.exmOne K (.ref C4) (.ref C2) = some false := PySem.W.exm_ref eC2 hC2 tC2 sf4_2
  have ex4_3 : PySem.W.exmOne K (.ref C4) (.ref C3) = some false := PySem.W.exm_ref eC3 hC3 tC3 sf4_3
  have ex5_0 : PySem.W.exmOne K (.ref C5) (.ref C0) = some false := PySem.W.exm_ref eC0 hC0 tC0 sf5_0
  have ex5_1 : PySem.W.exmOne K (.ref C5) (.ref C1) = some false := PySem.W.exm_ref eC1 hC1 tC1 sf5_1
  have ex5_2 : PySem.W.exmOne K (.ref C5) (.ref C2) = some false := PySem.W.exm_ref eC2 hC2 tC2 sf5_2
  have ex5_3 : PySem.W.exmOne K (.ref C5) (.ref C3) = some false := PySem.W.exm_ref eC3 hC3 tC3 sf5_3
  have ex5_4 : PySem.W.exmOne K (.ref C5) (.ref C4) = some false := PySem.W.exm_ref eC4 hC4 tC4 sf5_4
  have ex6_0 : PySem.W.exmOne K (.ref C6) (.ref C0) = some false := PySem.W.exm_ref eC0 hC0 tC0 sf6_0
  have ex6_1 : PySem.W.exmOne K (.ref C6) (.ref C1) = some false := PySem.W.exm_ref eC1 hC1 tC1 sf6_1
  have ex6_2 : PySem.W.exmOne K (.ref C6) (.ref C2) = some false := PySem.W.exm_ref eC2 hC2 tC2 sf6_2
  have ex6_3 : PySem.W.exmOne K (.ref C6) (.ref C3) = some false := PySem.W.exm_ref eC3 hC3 tC3 sf6_3
  have ex6_4 : PySem.W.exmOne K (.ref C6) (.ref C4) = some false := PySem.W.exm_ref eC4 hC4 tC4 sf6_4
  have ex6_5 : PySem.W.exmOne K (.ref C6) (.ref C5) = some false := PySem.W.exm_ref eC5 hC5 tC5 sf6_5
  refine ⟨PySem.W.fnOf "law" "law" (defArgs s_law) (defBody s_law) (defScope s_law) .none kV38 dc38 pm38 an38 (.ref q0) ct38, [(q0, r0), (q1, r1), (q2, r2), (q3, r3)], spLawT K [(r0, "law.<locals>.<lambda>"), (r1, "_law_is_very.<locals>.<lambda>"), (r2, "_law_of_sizes.<locals>.<lambda>"), (r3, "_law_of_stands.<locals>.<lambda>")], ?_, ?_, ?_, fun s v => .of_eq rfl, fun H a ns hl _ hH hS => ⟨a, ns, rfl, hS, hl, ?_, fun _ => rfl⟩, fun base _ _ hTB => ?_⟩
  · intro p hp
    simp only [List.mem_cons, List.not_mem_nil, or_false] at hp
    rcases hp with rfl | rfl | rfl | rfl
    · exact t0
    · exact t1
    · exact t2
    · exact t3
  · intro p hp
    simp only [List.mem_cons, List.not_mem_nil, or_false] at hp
    rcases hp with rfl | rfl | rfl | rfl
    · exact y0
    · exact y1
    · exact y2
    · exact y3
  · intro p hp
    simp only [List.mem_cons, List.not_mem_nil, or_false] at hp
    rcases hp with rfl | rfl | rfl | rfl
    · exact PySem.W.codeHd_of_K X x0
    · exact PySem.W.codeHd_of_K X x1
    · exact PySem.W.codeHd_of_K X x2
    · exact PySem.W.codeHd_of_K X x3
  · intro p hp
    simp only [List.mem_cons, List.not_mem_nil, or_false] at hp
    rcases hp with rfl | rfl | rfl | rfl
    · exact ⟨#[], hH (q0, r0) (by simp), trivial, fun _ _ q => nomatch q⟩
    · exact ⟨#[], hH (q1, r1) (by simp), trivial, fun _ _ q => nomatch q⟩
    · exact ⟨#[], hH (q2, r2) (by simp), trivial, fun _ _ q => nomatch q⟩
    · exact ⟨#[], hH (q3, r3) (by simp), trivial, fun _ _ q => nomatch q⟩
  have TB0 := hTB (q0, r0) (by simp)
  have hm0 : (r0, ("law.<locals>.<lambda>" : Str)) ∈ [(r0, ("law.<locals>.<lambda>" : Str)), (r1, ("_law_is_very.<locals>.<lambda>" : Str)), (r2, ("_law_of_sizes.<locals>.<lambda>" : Str)), (r3, ("_law_of_stands.<locals>.<lambda>" : Str))] := by simp
  have hu0 : ∀ p ∈ [(r0, ("law.<locals>.<lambda>" : Str)), (r1, ("_law_is_very.<locals>.<lambda>" : Str)), (r2, ("_law_of_sizes.<locals>.<lambda>" : Str)), (r3, ("_law_of_stands.<locals>.<lambda>" : Str))], p.1 = r0 → p.2 = ("law.<locals>.<lambda>" : Str) := fun p hp e => by
    simp only [List.mem_cons, List.not_mem_nil, or_false] at hp
    rcases hp with rfl | rfl | rfl | rfl
    · rfl
    · exact absurd e n1_0
    · exact absurd e n2_0
    · exact absurd e n3_0
  have TB1 := hTB (q1, r1) (by simp)
  have hm1 : (r1, ("_law_is_very.<locals>.<lambda>" : Str)) ∈ [(r0, ("law.<locals>.<lambda>" : Str)), (r1, ("_law_is_very.<locals>.<lambda>" : Str)), (r2, ("_law_of_sizes.<locals>.<lambda>" : Str)), (r3, ("_law_of_stands.<locals>.<lambda>" : Str))] := by simp
  have hu1 : ∀ p ∈ [(r0, ("law.<locals>.<lambda>" : Str)), (r1, ("_law_is_very.<locals>.<lambda>" : Str)), (r2, ("_law_of_sizes.<locals>.<lambda>" : Str)), (r3, ("_law_of_stands.<locals>.<lambda>" : Str))], p.1 = r1 → p.2 = ("_law_is_very.<locals>.<lambda>" : Str) := fun p hp e => by
    simp only [List.mem_cons, List.not_mem_nil, or_false] at hp
    rcases hp with rfl | rfl | rfl | rfl
    · exact absurd e.symm n1_0
    · rfl
    · exact absurd e n2_1
    · exact absurd e n3_1
  have TB2 := hTB (q2, r2) (by simp)
  have hm2 : (r2, ("_law_of_sizes.<locals>.<lambda>" : Str)) ∈ [(r0, ("law.<locals>.<lambda>" : Str)), (r1, ("_law_is_very.<locals>.<lambda>" : Str)), (r2, ("_law_of_sizes.<locals>.<lambda>" : Str)), (r3, ("_law_of_stands.<locals>.<lambda>" : Str))] := by simp
  have hu2 : ∀ p ∈ [(r0, ("law.<locals>.<lambda>" : Str)), (r1, ("_law_is_very.<locals>.<lambda>" : Str)), (r2, ("_law_of_sizes.<locals>.<lambda>" : Str)), (r3, ("_law_of_stands.<locals>.<lambda>" : Str))], p.1 = r2 → p.2 = ("_law_of_sizes.<locals>.<lambda>" : Str) := fun p hp e => by
    simp only [List.mem_cons, List.not_mem_nil, or_false] at hp
    rcases hp with rfl | rfl | rfl | rfl
    · exact absurd e.symm n2_0
    · exact absurd e.symm n2_1
    · rfl
    · exact absurd e n3_2
  have TB3 := hTB (q3, r3) (by simp)
  have hm3 : (r3, ("_law_of_stands.<locals>.<lambda>" : Str)) ∈ [(r0, ("law.<locals>.<lambda>" : Str)), (r1, ("_law_is_very.<locals>.<lambda>" : Str)), (r2, ("_law_of_sizes.<locals>.<lambda>" : Str)), (r3, ("_law_of_stands.<locals>.<lambda>" : Str))] := by simp
  have hu3 : ∀ p ∈ [(r0, ("law.<locals>.<lambda>" : Str)), (r1, ("_law_is_very.<locals>.<lambda>" : Str)), (r2, ("_law_of_sizes.<locals>.<lambda>" : Str)), (r3, ("_law_of_stands.<locals>.<lambda>" : Str))], p.1 = r3 → p.2 = ("_law_of_stands.<locals>.<lambda>" : Str) := fun p hp e => by
    simp only [List.mem_cons, List.not_mem_nil, or_false] at hp
    rcases hp with rfl | rfl | rfl | rfl
    · exact absurd e.symm n3_0
    · exact absurd e.symm n3_1
    · exact absurd e.symm n3_2
    · rfl
  have E_BadLetters : ErrC l.prog w K mg base "BadLetters" "letters" C0 := ⟨O0, PySem.W.mg_of X G aC0, ⟨ga0, gg0, eC0, hC0⟩, nb0, g0, _, ai0, ti0, init_ok Fi0 ⟨rfl, rfl, rfl, by decide +kernel, rfl, by decide +kernel, by decide +kernel⟩ rfl O0 nb0, bi0⟩
  have E_BadSigns : ErrC l.prog w K mg base "BadSigns" "signs" C1 := ⟨O1, PySem.W.mg_of X G aC1, ⟨ga1, gg1, eC1, hC1⟩, nb1, g1, _, ai1, ti1, init_ok Fi1 ⟨rfl, rfl, rfl, by decide +kernel, rfl, by decide +kernel, by decide +kernel⟩ rfl O1 nb1, bi1⟩
  have E_BadStands : ErrC l.prog w K mg base "BadStands" "stands" C2 := ⟨O2, PySem.W.mg_of X G aC2, ⟨ga2, gg2, eC2, hC2⟩, nb2, g2, _, ai2, ti2, init_ok Fi2 ⟨rfl, rfl, rfl, by decide +kernel, rfl, by decide +kernel, by decide +kernel⟩ rfl O2 nb2, bi2⟩
  have E_BadMost : ErrC l.prog w K mg base "BadMost" "most" C3 := ⟨O3, PySem.W.mg_of X G aC3, ⟨ga3, gg3, eC3, hC3⟩, nb3, g3, _, ai3, ti3, init_ok Fi3 ⟨rfl, rfl, rfl, by decide +kernel, rfl, by decide +kernel, by decide +kernel⟩ rfl O3 nb3, bi3⟩
  have E_BadReader : ErrC l.prog w K mg base "BadReader" "reader" C4 := ⟨O4, PySem.W.mg_of X G aC4, ⟨ga4, gg4, eC4, hC4⟩, nb4, g4, _, ai4, ti4, init_ok Fi4 ⟨rfl, rfl, rfl, by decide +kernel, rfl, by decide +kernel, by decide +kernel⟩ rfl O4 nb4, bi4⟩
  have E_BadSample : ErrC l.prog w K mg base "BadSample" "sample" C5 := ⟨O5, PySem.W.mg_of X G aC5, ⟨ga5, gg5, eC5, hC5⟩, nb5, g5, _, ai5, ti5, init_ok Fi5 ⟨rfl, rfl, rfl, by decide +kernel, rfl, by decide +kernel, by decide +kernel⟩ rfl O5 nb5, bi5⟩
  have E_BadWord : ErrC l.prog w K mg base "BadWord" "word" C6 := ⟨O6, PySem.W.mg_of X G aC6, ⟨ga6, gg6, eC6, hC6⟩, nb6, g6, _, ai6, ti6, init_ok Fi6 ⟨rfl, rfl, rfl, by decide +kernel, rfl, by decide +kernel, by decide +kernel⟩ rfl O6 nb6, bi6⟩
  have D_is_list := d_is_list (P := l.prog) (w := w) (base := base) bi T0  
  have D_is_whole := d_is_whole (P := l.prog) (w := w) (base := base) bi T1  
  have D_is_number := d_is_number (P := l.prog) (w := w) (base := base) bi T2 D_is_whole 
  have D_is_below := d_is_below (P := l.prog) (w := w) (base := base) bi T3 D_is_number 
  have D_is_row := d_is_row (P := l.prog) (w := w) (base := base) bi T4 D_is_list 
  have D_kept_word := d_kept_word (P := l.prog) (w := w) (base := base) bi T5 D_is_list D_is_number D_is_below 
  have D_kept_pair := d_kept_pair (P := l.prog) (w := w) (base := base) bi T6 D_is_row D_is_below D_kept_word 
  have XD_check_sizes := x_check_sizes (P := l.prog) (w := w) (base := base) bi T7 D_is_whole E_BadLetters E_BadSigns
  have D_kept_moves := d_kept_moves (P := l.prog) (w := w) (base := base) bi T8 D_is_below D_is_row D_kept_pair 
  have D_kept_ends := d_kept_ends (P := l.prog) (w := w) (base := base) bi T9 D_is_below D_kept_word 
  have D_kept_reader := d_kept_reader (P := l.prog) (w := w) (base := base) bi T10 D_is_row D_is_whole D_kept_word D_kept_moves D_kept_ends 
  have XD_need_reader := x_need_reader (P := l.prog) (w := w) (base := base) bi T11 D_kept_reader E_BadReader
  have D_kept_sample := d_kept_sample (P := l.prog) (w := w) (base := base) bi T14 D_is_list D_is_row D_kept_word 
  have XD_need_sample := x_need_sample (P := l.prog) (w := w) (base := base) bi T15 D_kept_sample E_BadSample
  have XD_need_all := x_need_all (P := l.prog) (w := w) (base := base) bi T19 XD_check_sizes D_is_whole D_is_number XD_need_sample E_BadStands E_BadMost
  have XD_is_sample := x_is_sample (P := l.prog) (w := w) (base := base) T20 XD_check_sizes
  have XD_tree_reader := x_tree_reader (P := l.prog) (w := w) (base := base) T22 XD_check_sizes XD_need_sample (DefT.none T17 rfl) (DefT.none T13 rfl) (DefT.none T12 rfl)
  have XD_all_fitting := x_all_fitting (P := l.prog) (w := w) (base := base) T23 XD_need_all (DefT.none T18 rfl)
  have XD_agreed := x_agreed (P := l.prog) (w := w) (base := base) T24 XD_need_all D_kept_word E_BadWord
  have XD_fits := x_fits (P := l.prog) (w := w) (base := base) T21 XD_need_reader XD_need_sample (DefT.none T16 rfl)
  have D__law_draw := d__law_draw (P := l.prog) (w := w) (base := base) bi T26  
  have D__law_pick := d__law_pick (P := l.prog) (w := w) (base := base) bi T27 D__law_draw 
  have D__law_same := d__law_same (P := l.prog) (w := w) (base := base) bi T28  15
  have D__law_copied := d__law_copied (P := l.prog) (w := w) (base := base) bi T29  14
  have D__law_said := v__law_said (P := l.prog) (w := w) (base := base) bi T31 D__law_draw D__law_pick 
  have D__law_reader := v__law_reader (P := l.prog) (w := w) (base := base) bi T32 D__law_draw D__law_said 
  have D__law_w_odd_word := d__law_w_odd_word (P := l.prog) (w := w) (base := base) bi T33 D__law_pick 
  have G__law_met := fun k => met_ok (P := l.prog) (w := w) (base := base) (k := k) F34 E_BadLetters E_BadSigns E_BadStands E_BadMost E_BadReader E_BadSample E_BadWord ex0 ex1 ex2 ex3 ex4 ex5 ex6 ex1_0 ex2_0 ex2_1 ex3_0 ex3_1 ex3_2 ex4_0 ex4_1 ex4_2 ex4_3 ex5_0 ex5_1 ex5_2 ex5_3 ex5_4 ex6_0 ex6_1 ex6_2 ex6_3 ex6_4 ex6_5
  have G__law_is_very := very_ok (P := l.prog) (w := w) (base := base) F30 hc1 TB1 hm1 hu1 (G__law_met 15) (by simp [CsK]; decide +kernel) (PySem.W.mg_of X G a34) k34 b34 D__law_same
  have G__law_all_met := all_ok (P := l.prog) (w := w) (base := base) bi F35 (G__law_met 15) (PySem.W.mg_of X G a34) k34 b34 D__law_same
  have G__law_of_sizes := sizes_ok (P := l.prog) (w := w) (base := base) F36 hc2 TB2 hm2 hu2 XD_agreed XD_all_fitting XD_is_sample XD_tree_reader
  have G__law_of_stands := stands_ok (P := l.prog) (w := w) (base := base) F37 hc3 TB3 hm3 hu3 XD_agreed XD_all_fitting D__law_copied
  exact ok_law (P := l.prog) (w := w) (base := base) bi F38 hc0 TB0 hm0 hu0 F25 (PySem.W.mg_of X G a25) b25 D__law_reader D__law_w_odd_word ⟨_, _, _, G__law_all_met, (PySem.W.mg_of X G a35), k35, b35⟩ ⟨_, _, _, G__law_of_sizes, (PySem.W.mg_of X G a36), k36, b36⟩ ⟨_, _, _, G__law_of_stands, (PySem.W.mg_of X G a37), k37, b37⟩ XD_tree_reader XD_fits XD_agreed XD_all_fitting G__law_is_very (PySem.W.mg_of X G a30) k30 b30
theorem walk {l : PySem.W.OpenLaw} {q : Program} {loose : List Str} {XP : (Str → Option Value) → Heap → Prop} {YP : World → Heap → Prop} {d : DefRec} {K : Params → PySem.W.Frag} (hn : l.most = some 63) (hdf : d.params.defaults = [])
    (hY : ∀ (w : World) (h : Heap), YP w h → (K w.params).In h)
    (F : ∀ (w : World) (mg : Str → Option Value) (fa : Addr) (h : Heap), YP w h → (K w.params).In h → h.Ns mainGlobals mg → mg d.name = some (.ref fa) → LamX.LawAtS l w (K w.params) CX0 18 63 "script" mg fa h) :
    PySem.W.WalkO q loose XP YP l.row.toRowW d [] (fun f vs => PySem.call f vs) :=
  LamX.walk_ofTs (n := 63) (k := 18) (x := "script") (CX := fun _ => CX0) hn (by decide) hdf ⟨rfl, by decide, by decide⟩ hY F fun _ _ _ _ _ z => z
end
end MC
open PySem PySem.W PyProof.Rows
set_option maxRecDepth 100000 in
set_option maxHeartbeats 0 in
theorem PySem.Challenge.cw_wordforword_k37_learning_refused_holds : PySem.Challenge.rw_wordforword_k37_learning_refused.Holds := by
  w_on; o_law; k_head; (case hw => w_witness2)
  k_fill
  refine MC.walk (l := PySem.Challenge.rw_wordforword_k37_learning_refused) rfl rfl (fun w h Y => PySem.W.km_in_of Y) ?F
  case F =>
    intro w mg fa h Y KX G hmg
    refine' MC.all_mk KX G hmg ?a0 ?l0 ?c0 ?k0 ?a1 ?l1 ?c1 ?k1 ?a2 ?l2 ?c2 ?k2 ?a3 ?l3 ?c3 ?k3 ?a4 ?l4 ?c4 ?k4 ?a5 ?l5 ?c5 ?k5 ?a6 ?l6 ?c6 ?k6 ?a7 ?l7 ?c7 ?k7 ?a8 ?l8 ?c8 ?k8 ?a9 ?l9 ?c9 ?k9 ?a10 ?l10 ?c10 ?k10 ?a11 ?l11 ?c11 ?k11 ?a12 ?l12 ?c12 ?k12 ?a13 ?l13 ?c13 ?k13 ?a14 ?l14 ?c14 ?k14 ?a15 ?l15 ?c15 ?k15 ?a16 ?l16 ?c16 ?k16 ?a17 ?l17 ?c17 ?k17 ?a18 ?l18 ?c18 ?k18 ?a19 ?l19 ?c19 ?k19 ?a20 ?l20 ?c20 ?k20 ?a21 ?l21 ?c21 ?k21 ?a22 ?l22 ?c22 ?k22 ?a23 ?l23 ?c23 ?k23 ?a24 ?l24 ?c24 ?k24 ?a25 ?l25 ?c25 ?k25 ?a26 ?l26 ?c26 ?k26 ?a27 ?l27 ?c27 ?k27 ?a28 ?l28 ?c28 ?k28 ?a29 ?l29 ?c29 ?k29 ?a30 ?l30 ?c30 ?k30 ?a31 ?l31 ?c31 ?k31 ?a32 ?l32 ?c32 ?k32 ?a33 ?l33 ?c33 ?k33 ?a34 ?l34 ?c34 ?k34 ?a35 ?l35 ?c35 ?k35 ?a36 ?l36 ?c36 ?k36 ?a37 ?l37 ?c37 ?k37 ?a38 ?l38 ?c38 ?k38 ?u0 ?v0 ?x0 ?y0 ?t0 ?u1 ?v1 ?x1 ?y1 ?t1 ?u2 ?v2 ?x2 ?y2 ?t2 ?u3 ?v3 ?x3 ?y3 ?t3 ?n1_0 ?n2_0 ?n2_1 ?n3_0 ?n3_1 ?n3_2 ?aC0 ?xL0 ?bmC0 ?sa0 ?eC0 ?tC0 ?kC0 ?ga0 ?gg0 ?hC0 ?nb0 ?ai0 ?ti0 ?li0 ?ci0 ?ki0 ?ss0 ?aC1 ?xL1 ?bmC1 ?sa1 ?eC1 ?tC1 ?kC1 ?ga1 ?gg1 ?hC1 ?nb1 ?ai1 ?ti1 ?li1 ?ci1 ?ki1 ?ss1 ?aC2 ?xL2 ?bmC2 ?sa2 ?eC2 ?tC2 ?kC2 ?ga2 ?gg2 ?hC2 ?nb2 ?ai2 ?ti2 ?li2 ?ci2 ?ki2 ?ss2 ?aC3 ?xL3 ?bmC3 ?sa3 ?eC3 ?tC3 ?kC3 ?ga3 ?gg3 ?hC3 ?nb3 ?ai3 ?ti3 ?li3 ?ci3 ?ki3 ?ss3 ?aC4 ?xL4 ?bmC4 ?sa4 ?eC4 ?tC4 ?kC4 ?ga4 ?gg4 ?hC4 ?nb4 ?ai4 ?ti4 ?li4 ?ci4 ?ki4 ?ss4 ?aC5 ?xL5 ?bmC5 ?sa5 ?eC5 ?tC5 ?kC5 ?ga5 ?gg5 ?hC5 ?nb5 ?ai5 ?ti5 ?li5 ?ci5 ?ki5 ?ss5 ?aC6 ?xL6 ?bmC6 ?sa6 ?eC6 ?tC6 ?kC6 ?ga6 ?gg6 ?hC6 ?nb6 ?ai6 ?ti6 ?li6 ?ci6 ?ki6 ?ss6 ?sf1_0 ?sf2_0 ?sf2_1 ?sf3_0 ?sf3_1 ?sf3_2 ?sf4_0 ?sf4_1 ?sf4_2 ?sf4_3 ?sf5_0 ?sf5_1 ?sf5_2 ?sf5_3 ?sf5_4 ?sf6_0 ?sf6_1 ?sf6_2 ?sf6_3 ?sf6_4 ?sf6_5 ?z0 ?z1 ?z2 ?z3 ?z4 ?z5 ?z6 ?z7 ?z8 ?z9 ?z10 ?z11 ?z12 ?z13
    (case a0 => k_is)
    (case l0 => k_is)
    (case c0 => k_is)
    (case k0 => k_is)
    (case a1 => k_is)
    (case l1 => k_is)
    (case c1 => k_is)
    (case k1 => k_is)
    (case a2 => k_is)
    (case l2 => k_is)
    (case c2 => k_is)
    (case k2 => k_is)
    (case a3 => k_is)
    (case l3 => k_is)
    (case c3 => k_is)
    (case k3 => k_is)
    (case a4 => k_is)
    (case l4 => k_is)
    (case c4 => k_is)
    (case k4 => k_is)
    (case a5 => k_is)
    (case l5 => k_is)
    (case c5 => k_is)
    (case k5 => k_is)
    (case a6 => k_is)
    (case l6 => k_is)
    (case c6 => k_is)
    (case k6 => k_is)
    (case a7 => k_is)
    (case l7 => k_is)
    (case c7 => k_is)
    (case k7 => k_is)
    (case a8 => k_is)
    (case l8 => k_is)
    (case c8 => k_is)
    (case k8 => k_is)
    (case a9 => k_is)
    (case l9 => k_is)
    (case c9 => k_is)
    (case k9 => k_is)
    (case a10 => k_is)
    (case l10 => k_is)
    (case c10 => k_is)
    (case k10 => k_is)
    (case a11 => k_is)
    (case l11 => k_is)
    (case c11 => k_is)
    (case k11 => k_is)
    (case a12 => k_is)
    (case l12 => k_is)
    (case c12 => k_is)
    (case k12 => k_is)
    (case a13 => k_is)
    (case l13 => k_is)
    (case c13 => k_is)
    (case k13 => k_is)
    (case a14 => k_is)
    (case l14 => k_is)
    (case c14 => k_is)
    (case k14 => k_is)
    (case a15 => k_is)
    (case l15 => k_is)
    (case c15 => k_is)
    (case k15 => k_is)
    (case a16 => k_is)
    (case l16 => k_is)
    (case c16 => k_is)
    (case k16 => k_is)
    (case a17 => k_is)
    (case l17 => k_is)
    (case c17 => k_is)
    (case k17 => k_is)
    (case a18 => k_is)
    (case l18 => k_is)
    (case c18 => k_is)
    (case k18 => k_is)
    (case a19 => k_is)
    (case l19 => k_is)
    (case c19 => k_is)
    (case k19 => k_is)
    (case a20 => k_is)
    (case l20 => k_is)
    (case c20 => k_is)
    (case k20 => k_is)
    (case a21 => k_is)
    (case l21 => k_is)
    (case c21 => k_is)
    (case k21 => k_is)
    (case a22 => k_is)
    (case l22 => k_is)
    (case c22 => k_is)
    (case k22 => k_is)
    (case a23 => k_is)
    (case l23 => k_is)
    (case c23 => k_is)
    (case k23 => k_is)
    (case a24 => k_is)
    (case l24 => k_is)
    (case c24 => k_is)
    (case k24 => k_is)
    (case a25 => k_is)
    (case l25 => k_is)
    (case c25 => k_is)
    (case k25 => k_is)
    (case a26 => k_is)
    (case l26 => k_is)
    (case c26 => k_is)
    (case k26 => k_is)
    (case a27 => k_is)
    (case l27 => k_is)
    (case c27 => k_is)
    (case k27 => k_is)
    (case a28 => k_is)
    (case l28 => k_is)
    (case c28 => k_is)
    (case k28 => k_is)
    (case a29 => k_is)
    (case l29 => k_is)
    (case c29 => k_is)
    (case k29 => k_is)
    (case a30 => k_is)
    (case l30 => k_is)
    (case c30 => k_is)
    (case k30 => k_is)
    (case a31 => k_is)
    (case l31 => k_is)
    (case c31 => k_is)
    (case k31 => k_is)
    (case a32 => k_is)
    (case l32 => k_is)
    (case c32 => k_is)
    (case k32 => k_is)
    (case a33 => k_is)
    (case l33 => k_is)
    (case c33 => k_is)
    (case k33 => k_is)
    (case a34 => k_is)
    (case l34 => k_is)
    (case c34 => k_is)
    (case k34 => k_is)
    (case a35 => k_is)
    (case l35 => k_is)
    (case c35 => k_is)
    (case k35 => k_is)
    (case a36 => k_is)
    (case l36 => k_is)
    (case c36 => k_is)
    (case k36 => k_is)
    (case a37 => k_is)
    (case l37 => k_is)
    (case c37 => k_is)
    (case k37 => k_is)
    (case a38 => k_is)
    (case l38 => k_is)
    (case c38 => k_is)
    (case k38 => k_is)
    (case u0 => k_is)
    (case v0 => rfl)
    (case x0 => kernel_rfl)
    (case y0 => kernel_rfl)
    (case t0 => exact PySem.W.km_tabs_of Y _ (by decide))
    (case u1 => k_is)
    (case v1 => rfl)
    (case x1 => kernel_rfl)
    (case y1 => kernel_rfl)
    (case t1 => exact PySem.W.km_tabs_of Y _ (by decide))
    (case u2 => k_is)
    (case v2 => rfl)
    (case x2 => kernel_rfl)
    (case y2 => kernel_rfl)
    (case t2 => exact PySem.W.km_tabs_of Y _ (by decide))
    (case u3 => k_is)
    (case v3 => rfl)
    (case x3 => kernel_rfl)
    (case y3 => kernel_rfl)
    (case t3 => exact PySem.W.km_tabs_of Y _ (by decide))
    (case n1_0 => decide)
    (case n2_0 => decide)
    (case n2_1 => decide)
    (case n3_0 => decide)
    (case n3_1 => decide)
    (case n3_2 => decide)
    (case aC0 => k_is)
    (case xL0 => k_is)
    (case bmC0 => decide +kernel)
    (case sa0 => k_is)
    (case eC0 => k_is)
    (case tC0 => k_is)
    (case kC0 => k_is)
    (case ga0 => k_is)
    (case gg0 => k_is)
    (case hC0 => k_is)
    (case nb0 => k_is)
    (case ai0 => k_is)
    (case ti0 => k_is)
    (case li0 => k_is)
    (case ci0 => k_is)
    (case ki0 => k_is)
    (case ss0 => first | rfl | k_is)
    (case aC1 => k_is)
    (case xL1 => k_is)
    (case bmC1 => decide +kernel)
    (case sa1 => k_is)
    (case eC1 => k_is)
    (case tC1 => k_is)
    (case kC1 => k_is)
    (case ga1 => k_is)
    (case gg1 => k_is)
    (case hC1 => k_is)
    (case nb1 => k_is)
    (case ai1 => k_is)
    (case ti1 => k_is)
    (case li1 => k_is)
    (case ci1 => k_is)
    (case ki1 => k_is)
    (case ss1 => first | rfl | k_is)
    (case aC2 => k_is)
    (case xL2 => k_is)
    (case bmC2 => decide +kernel)
    (case sa2 => k_is)
    (case eC2 => k_is)
    (case tC2 => k_is)
    (case kC2 => k_is)
    (case ga2 => k_is)
    (case gg2 => k_is)
    (case hC2 => k_is)
    (case nb2 => k_is)
    (case ai2 => k_is)
    (case ti2 => k_is)
    (case li2 => k_is)
    (case ci2 => k_is)
    (case ki2 => k_is)
    (case ss2 => first | rfl | k_is)
    (case aC3 => k_is)
    (case xL3 => k_is)
    (case bmC3 => decide +kernel)
    (case sa3 => k_is)
    (case eC3 => k_is)
    (case tC3 => k_is)
    (case kC3 => k_is)
    (case ga3 => k_is)
    (case gg3 => k_is)
    (case hC3 => k_is)
    (case nb3 => k_is)
    (case ai3 => k_is)
    (case ti3 => k_is)
    (case li3 => k_is)
    (case ci3 => k_is)
    (case ki3 => k_is)
    (case ss3 => first | rfl | k_is)
    (case aC4 => k_is)
    (case xL4 => k_is)
    (case bmC4 => decide +kernel)
    (case sa4 => k_is)
    (case eC4 => k_is)
    (case tC4 => k_is)
    (case kC4 => k_is)
    (case ga4 => k_is)
    (case gg4 => k_is)
    (case hC4 => k_is)
    (case nb4 => k_is)
    (case ai4 => k_is)
    (case ti4 => k_is)
    (case li4 => k_is)
    (case ci4 => k_is)
    (case ki4 => k_is)
    (case ss4 => first | rfl | k_is)
    (case aC5 => k_is)
    (case xL5 => k_is)
    (case bmC5 => decide +kernel)
    (case sa5 => k_is)
    (case eC5 => k_is)
    (case tC5 => k_is)
    (case kC5 => k_is)
    (case ga5 => k_is)
    (case gg5 => k_is)
    (case hC5 => k_is)
    (case nb5 => k_is)
    (case ai5 => k_is)
    (case ti5 => k_is)
    (case li5 => k_is)
    (case ci5 => k_is)
    (case ki5 => k_is)
    (case ss5 => first | rfl | k_is)
    (case aC6 => k_is)
    (case xL6 => k_is)
    (case bmC6 => decide +kernel)
    (case sa6 => k_is)
    (case eC6 => k_is)
    (case tC6 => k_is)
    (case kC6 => k_is)
    (case ga6 => k_is)
    (case gg6 => k_is)
    (case hC6 => k_is)
    (case nb6 => k_is)
    (case ai6 => k_is)
    (case ti6 => k_is)
    (case li6 => k_is)
    (case ci6 => k_is)
    (case ki6 => k_is)
    (case ss6 => first | rfl | k_is)
    (case sf1_0 => k_is)
    (case sf2_0 => k_is)
    (case sf2_1 => k_is)
    (case sf3_0 => k_is)
    (case sf3_1 => k_is)
    (case sf3_2 => k_is)
    (case sf4_0 => k_is)
    (case sf4_1 => k_is)
    (case sf4_2 => k_is)
    (case sf4_3 => k_is)
    (case sf5_0 => k_is)
    (case sf5_1 => k_is)
    (case sf5_2 => k_is)
    (case sf5_3 => k_is)
    (case sf5_4 => k_is)
    (case sf6_0 => k_is)
    (case sf6_1 => k_is)
    (case sf6_2 => k_is)
    (case sf6_3 => k_is)
    (case sf6_4 => k_is)
    (case sf6_5 => k_is)
    (case z0 => k_is)
    (case z1 => k_is)
    (case z2 => k_is)
    (case z3 => k_is)
    (case z4 => k_is)
    (case z5 => k_is)
    (case z6 => k_is)
    (case z7 => k_is)
    (case z8 => k_is)
    (case z9 => k_is)
    (case z10 => k_is)
    (case z11 => k_is)
    (case z12 => k_is)
    (case z13 => k_is)
