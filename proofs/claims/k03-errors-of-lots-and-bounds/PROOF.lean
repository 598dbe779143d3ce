import PyProof.Rows.All
import Wide.All
import OpenK.AllK
import Wide.FinOn
import HandS.ForMost
import HandS.Lambda
import HandS.Exc
import HandS.TupAny
import HandS.TupMul
import HandS.Wide
import HandS.WideBits
import HandS.IsInst
import HandS.Gcd
import HandS.SortInts
import HandS.Deep
import HandS.Style
import HandS.More
import KE.KStar
import HandS.Zip
import HandS.ExcOwn
import HandS.CallSlots
import HandS.Defaults
import HandS.Strs
import HandS.SetFor
import HandS.DictComp
import HandS.Dict
import HandS.List
import HandS.Comp
import HandS.HeadHook1
import HandS.HeadHook2
import HandS.HeadHook4
import KE.KSortTup
import HandS.Sort
import HandS.SortOrd
import HandS.NamedTupSort
import HandS.TupSets
import HandS.TryMany
import HandS.ExcField
import HandS.CallLocal
import KE.KExcSuper
import HandS.EndBits
import HandS.EndTab
import PySem.Challenge.RW_crestjoin_k03_errors_of_lots_and_bounds
import KE.KStateDown
import HandS.Ends
import HandS.HeadEnd
import HandS.Head0
import HandS.Head1
import HandS.Head2
import HandS.Head3
import KE.IntBitsLaws
set_option Elab.async false
set_option linter.all false
set_option maxRecDepth 100000
/-! Mv, part A: value trees, the relation to the abstract heap, outcomes. -/
namespace Mv
open PySem PySem.Spec PyProof.Rows L2

/-! ### value trees -/
/-- built-in classes as values -/
inductive BTy where
  | none | bool | int | str | tuple | list | dict | set
def BTy.name : BTy → String
  | .none => "NoneType"
  | .bool => "bool"
  | .int => "int"
  | .str => "str"
  | .tuple => "tuple"
  | .list => "list"
  | .dict => "dict"
  | .set => "set"
inductive VV where
  | non | bl (b : Bool) | int (i : Int) | str (x : Str) | ty (n : BTy)
  | tup (xs : List VV) | lst (xs : List VV) | rol (xs : List VV) | dct (ks vs : List VV) | ins (c : Nat) (fs : List VV)
  | ref (n : Nat) | adr (n : Nat)
/-- what stands in the small heap -/
inductive VO where
  | lst (xs : List VV) | dead | tbl (n : Nat) (q : Str)
abbrev VH := List VO
structure Exn where
  c : Nat
  pay : Option VV
inductive Out (α : Type) where
  | ok (a : α) (h : VH) | exc (x : Exn) (h : VH) | bad
def Out.bind {α β : Type} (r : Out α) (f : α → VH → Out β) : Out β := match r with
  | .ok a h => f a h
  | .exc x h => .exc x h
  | .bad => .bad

/-! ### worlds: where the small heap's objects lie, which addresses are others' to change (P), which are this frame's own lists (O, by slots) -/
structure Wd where
  phi : List (Option Addr)
  P : Addr → Prop
  O : List (Option Addr)
def Wd.mut (w : Wd) (a : Addr) : Prop := some a ∈ w.phi ∨ w.P a ∨ some a ∈ w.O

section
variable (K : PySem.W.Frag) (G : Nat → Addr)
/-- a list, a tuple of the written part -/
def KLst (a : Addr) (xs : List V) : Prop := ∃ (o : Obj) (its : Array Value) (n : Nat), K.lookup a = some o ∧ o.cls = .type "list" ∧ o.dict = none ∧ o.data = .seq its n ∧ its.size ≤ sizeLine ∧ Vals xs its.toList
def KTup (a : Addr) (xs : List V) : Prop := ∃ (o : Obj) (its : Array Value) (n : Nat), K.lookup a = some o ∧ o.cls = .type "tuple" ∧ o.data = .seq its n ∧ its.size ≤ sizeLine ∧ Vals xs its.toList
mutual
def RV (w : Wd) (H : Hp) : VV → V → Prop
  | .non, y => y = .non
  | .bl b, y => y = .bl b
  | .int i, y => y = .int i
  | .str x, y => y = .str x
  | .ty n, y => y = .ty n.name
  | .tup xs, y => ∃ a ys, y = .ref a ∧ ((H a = some (.tup ys) ∧ ¬ w.mut a) ∨ KTup K a ys) ∧ RVs w H xs ys
  | .lst xs, y => ∃ a ys, y = .ref a ∧ (H a = some (.lst ys) ∧ ¬ w.mut a) ∧ RVs w H xs ys
  | .rol xs, y => ∃ a ys, y = .ref a ∧ ((∃ o, H a = some (.frz o (.lst ys)) ∧ ¬ w.mut a) ∨ KLst K a ys) ∧ RVs w H xs ys
  | .dct ks vs, y => ∃ a kvs, y = .ref a ∧ (H a = some (.dK kvs) ∧ ¬ w.mut a) ∧ RVs w H ks (kvs.map fun p => kV p.1) ∧ RVs w H vs (kvs.map fun p => p.2)
  | .ins _ _, _ => False
  | .ref n, y => ∃ a, y = .ref a ∧ n < w.phi.length ∧ ∀ b, w.phi[n]? = some (some b) → b = a
  | .adr n, y => y = .ref (G n)
def RVs (w : Wd) (H : Hp) : List VV → List V → Prop
  | [], ys => ys = []
  | x :: xs, ys => ∃ y r, ys = y :: r ∧ RV w H x y ∧ RVs w H xs r
end
/-- a table of code objects, all of one name -/
def TabW (w : Wd) (H : Hp) (a : Addr) (q : Str) : Prop := ∃ ps : Array Value, H a = some (.tbl ps) ∧ TriplesOk ps.toList ∧ ∀ (pos : Pos) (cv : Value), codeAmong pos ps.toList = some cv → ∃ c, cv = .ref c ∧ H c = some (LamX.CodeO c q) ∧ ¬ w.mut c
/-- an object of the small heap -/
def RO (w : Wd) (H : Hp) : VO → Addr → Prop
  | .lst xs, a => ∃ ys, H a = some (.lst ys) ∧ RVs K G w H xs ys
  | .dead, _ => False
  | .tbl n q, a => a = G n ∧ TabW w H a q
/-- no table, no code object -/
def dat : HO → Bool
  | .tbl _ => false
  | .ext _ => false
  | _ => true
/-- tables are in the small heap, code objects are nobody's to change -/
def Spc (w : Wd) (a : Addr) : HO → Prop
  | .tbl _ => some a ∈ w.phi
  | .ext _ => ¬ w.mut a
  | _ => True
theorem Spc.of {w : Wd} {a : Addr} {o : HO} (h : dat o = true) : Spc w a o := by
  cases o with
  | tbl _ => cases h
  | ext _ => cases h
  | _ => trivial
theorem Spc.imp {w w' : Wd} {a : Addr} {o : HO} (h1 : some a ∈ w.phi → some a ∈ w'.phi) (h2 : w'.mut a → w.mut a) (h : Spc w a o) : Spc w' a o := by
  cases o with
  | tbl _ => exact h1 h
  | ext _ => exact fun z => h (h2 z)
  | _ => trivial
def Spcs (w : Wd) (H : Hp) : Prop := ∀ (a : Addr) (o : HO), H a = some o → Spc w a o
theorem Spcs.imp {w w' : Wd} {H : Hp} (k : Spcs w H) (h : ∀ a, (some a ∈ w.phi → some a ∈ w'.phi) ∧ (w'.mut a → w.mut a)) : Spcs w' H := fun a o e => (k a o e).imp (h a).1 (h a).2
theorem Spcs.upd {w w' : Wd} {H : Hp} {p : Addr} {o : HO} (k : Spcs w H) (hd : dat o = true) (h : ∀ a, a ≠ p → (some a ∈ w.phi → some a ∈ w'.phi) ∧ (w'.mut a → w.mut a)) : Spcs w' (upd H p o) := fun a u e => by
  by_cases c : a = p
  · subst c
    rw [upd_same] at e
    cases e
    exact Spc.of hd
  · rw [upd_ne c] at e
    exact (k a u e).imp (h a c).1 (h a c).2
def nt : HO → Bool
  | .tbl _ => false
  | _ => true
theorem Spcs.new {w : Wd} {H : Hp} {p : Addr} {o : HO} (k : Spcs w H) (hd : nt o = true) (hp : ¬ w.mut p) : Spcs w (L2.upd H p o) := fun a u e => by
  by_cases c : a = p
  · subst c
    rw [upd_same] at e
    cases e
    cases o with
    | tbl _ => cases hd
    | ext _ => exact hp
    | _ => trivial
  · rw [upd_ne c] at e
    exact k a u e
theorem Spcs.put {w : Wd} {H : Hp} {p : Addr} {o : HO} (k : Spcs w H) (hd : dat o = true) : Spcs w (L2.upd H p o) := k.upd hd fun _ _ => ⟨id, id⟩
structure Hk (w : Wd) (h : VH) (H : Hp) : Prop where
  len : w.phi.length = h.length
  inj : ∀ (n m : Nat) (a : Addr), w.phi[n]? = some (some a) → w.phi[m]? = some (some a) → n = m
  obj : ∀ (n : Nat) (a : Addr), w.phi[n]? = some (some a) → ∃ o, h[n]? = some o ∧ RO K G w H o a
  has : ∀ (n : Nat) (o : VO), h[n]? = some o → o ≠ .dead → ∃ a, w.phi[n]? = some (some a)
  prot : ∀ a, w.P a ∨ some a ∈ w.O → H a ≠ none ∧ some a ∉ w.phi
  own : ∀ a, w.P a → some a ∉ w.O
  ownI : ∀ (n m : Nat) (a : Addr), w.O[n]? = some (some a) → w.O[m]? = some (some a) → n = m
  spc : Spcs w H
end

/-- what an expression (a call) may have changed -/
structure Ext (w : Wd) (H : Hp) (w' : Wd) (H' : Hp) : Prop where
  keep : ∀ a o, H a = some o → ¬ w.mut a → H' a = some o ∧ ¬ w'.mut a
  refs : ∀ (n : Nat) (b : Addr), n < w.phi.length → w'.phi[n]? = some (some b) → w.phi[n]? = some (some b)
  len : w.phi.length ≤ w'.phi.length
  P : w'.P = w.P
  O : w'.O = w.O
  prot : ∀ a, w.P a ∨ some a ∈ w.O → H' a = H a
theorem Ext.refl (w : Wd) (H : Hp) : Ext w H w H := ⟨fun _ _ h m => ⟨h, m⟩, fun _ _ _ h => h, Nat.le_refl _, rfl, rfl, fun _ _ => rfl⟩
theorem Ext.trans {w w1 w2 : Wd} {H H1 H2 : Hp} (a : Ext w H w1 H1) (b : Ext w1 H1 w2 H2) : Ext w H w2 H2 where
  keep := fun c o h m => let ⟨h1, m1⟩ := a.keep c o h m; b.keep c o h1 m1
  refs := fun n c hn h => a.refs n c hn (b.refs n c (Nat.lt_of_lt_of_le hn a.len) h)
  len := Nat.le_trans a.len b.len
  P := b.P.trans a.P
  O := b.O.trans a.O
  prot := fun c hc => (b.prot c (by rw [a.P, a.O]; exact hc)).trans (a.prot c hc)

section
variable {K : PySem.W.Frag} {G : Nat → Addr} {w w' : Wd} {H H' : Hp}
/-- what a tree's relation leans on -/
structure Sees (w : Wd) (H : Hp) (w' : Wd) (H' : Hp) : Prop where
  keep : ∀ a o, H a = some o → ¬ w.mut a → H' a = some o ∧ ¬ w'.mut a
  refs : ∀ (n : Nat) (b : Addr), n < w.phi.length → w'.phi[n]? = some (some b) → w.phi[n]? = some (some b)
  len : w.phi.length ≤ w'.phi.length
theorem Ext.sees (e : Ext w H w' H') : Sees w H w' H' := ⟨e.keep, e.refs, e.len⟩
mutual
theorem RV.mono (e : Sees w H w' H') : ∀ (v : VV) (y : V), RV K G w H v y → RV K G w' H' v y
  | .non, _, h => by simp only [RV] at h ⊢; exact h
  | .bl _, _, h => by simp only [RV] at h ⊢; exact h
  | .int _, _, h => by simp only [RV] at h ⊢; exact h
  | .str _, _, h => by simp only [RV] at h ⊢; exact h
  | .ty _, _, h => by simp only [RV] at h ⊢; exact h
  | .tup xs, _, h => by
    simp only [RV] at h ⊢
    obtain ⟨a, ys, e1, h1, h2⟩ := h
    exact ⟨a, ys, e1, h1.imp (fun q => e.keep a _ q.1 q.2) id, RVs.mono e xs ys h2⟩
  | .lst xs, _, h => by
    simp only [RV] at h ⊢
    obtain ⟨a, ys, e1, h1, h2⟩ := h
    exact ⟨a, ys, e1, e.keep a _ h1.1 h1.2, RVs.mono e xs ys h2⟩
  | .rol xs, _, h => by
    simp only [RV] at h ⊢
    obtain ⟨a, ys, e1, h1, h2⟩ := h
    exact ⟨a, ys, e1, h1.imp (fun ⟨o, q1, q2⟩ => ⟨o, e.keep a _ q1 q2⟩) id, RVs.mono e xs ys h2⟩
  | .dct ks vs, _, h => by
    simp only [RV] at h ⊢
    obtain ⟨a, kvs, e1, h1, h2, h3⟩ := h
    exact ⟨a, kvs, e1, e.keep a _ h1.1 h1.2, RVs.mono e ks _ h2, RVs.mono e vs _ h3⟩
  | .ins _ _, _, h => by simp only [RV] at h
  | .ref n, _, h => by
    simp only [RV] at h ⊢
    obtain ⟨a, e1, h1, h2⟩ := h
    exact ⟨a, e1, Nat.lt_of_lt_of_le h1 e.len, fun b hb => h2 b (e.refs n b h1 hb)⟩
  | .adr _, _, h => by simp only [RV] at h ⊢; exact h
theorem RVs.mono (e : Sees w H w' H') : ∀ (v : List VV) (y : List V), RVs K G w H v y → RVs K G w' H' v y
  | [], _, h => by simp only [RVs] at h ⊢; exact h
  | x :: xs, _, h => by
    simp only [RVs] at h ⊢
    obtain ⟨y, r, e1, h1, h2⟩ := h
    exact ⟨y, r, e1, RV.mono e x y h1, RVs.mono e xs r h2⟩
end
theorem RVs.length : ∀ {v : List VV} {y : List V}, RVs K G w H v y → v.length = y.length
  | [], _, h => by simp only [RVs] at h; subst h; rfl
  | x :: xs, _, h => by
    simp only [RVs] at h
    obtain ⟨y, r, rfl, _, h2⟩ := h
    simp [RVs.length h2]
theorem RVs.get : ∀ {v : List VV} {y : List V}, RVs K G w H v y → ∀ (i : Nat) (x : VV), v[i]? = some x → ∃ z, y[i]? = some z ∧ RV K G w H x z
  | [], _, _, i, x, hx => by simp at hx
  | x :: xs, _, h, i, z, hx => by
    simp only [RVs] at h
    obtain ⟨y, r, rfl, h1, h2⟩ := h
    cases i with
    | zero => simp at hx; subst hx; exact ⟨y, rfl, h1⟩
    | succ i => simpa using RVs.get h2 i z (by simpa using hx)
theorem RVs.app : ∀ {v v' : List VV} {y y' : List V}, RVs K G w H v y → RVs K G w H v' y' → RVs K G w H (v ++ v') (y ++ y')
  | [], _, _, _, h, h' => by simp only [RVs] at h; subst h; exact h'
  | x :: xs, _, _, _, h, h' => by
    simp only [RVs] at h
    obtain ⟨y, r, rfl, h1, h2⟩ := h
    simp only [List.cons_append, RVs]
    exact ⟨y, _, rfl, h1, RVs.app h2 h'⟩
theorem RVs.take : ∀ {v : List VV} {y : List V} (n : Nat), RVs K G w H v y → RVs K G w H (v.take n) (y.take n)
  | _, _, 0, _ => by simp [RVs]
  | [], _, n + 1, h => by simp only [RVs] at h; subst h; simp [RVs]
  | x :: xs, _, n + 1, h => by
    simp only [RVs] at h
    obtain ⟨y, r, rfl, h1, h2⟩ := h
    simp only [List.take_succ_cons, RVs]
    exact ⟨y, _, rfl, h1, RVs.take n h2⟩
theorem RVs.drop : ∀ {v : List VV} {y : List V} (n : Nat), RVs K G w H v y → RVs K G w H (v.drop n) (y.drop n)
  | _, _, 0, h => by simpa using h
  | [], _, n + 1, h => by simp only [RVs] at h; subst h; simp [RVs]
  | x :: xs, _, n + 1, h => by
    simp only [RVs] at h
    obtain ⟨y, r, rfl, h1, h2⟩ := h
    simpa using RVs.drop n h2
theorem RVs.set : ∀ {v : List VV} {y : List V} (n : Nat) {x : VV} {z : V}, RVs K G w H v y → RV K G w H x z → RVs K G w H (v.set n x) (y.set n z)
  | [], _, n, _, _, h, _ => by simp only [RVs] at h; subst h; simp [RVs]
  | a :: xs, _, 0, _, _, h, h' => by
    simp only [RVs] at h
    obtain ⟨y, r, rfl, h1, h2⟩ := h
    simp only [List.set_cons_zero, RVs]
    exact ⟨_, _, rfl, h', h2⟩
  | a :: xs, _, n + 1, _, _, h, h' => by
    simp only [RVs] at h
    obtain ⟨y, r, rfl, h1, h2⟩ := h
    simp only [List.set_cons_succ, RVs]
    exact ⟨y, _, rfl, h1, RVs.set n h2 h'⟩
theorem RVs.rev : ∀ {v : List VV} {y : List V}, RVs K G w H v y → RVs K G w H v.reverse y.reverse
  | [], _, h => by simp only [RVs] at h; subst h; simp [RVs]
  | x :: xs, _, h => by
    simp only [RVs] at h
    obtain ⟨y, r, rfl, h1, h2⟩ := h
    simp only [List.reverse_cons]
    exact RVs.app (RVs.rev h2) (by simp only [RVs]; exact ⟨y, [], rfl, h1, rfl⟩)
theorem RVs.ints : ∀ {ns : List Int} {y : List V}, RVs K G w H (ns.map VV.int) y → y = ns.map V.int
  | [], _, h => by simpa only [List.map_nil, RVs] using h
  | n :: ns, _, h => by
    simp only [List.map_cons, RVs, RV] at h
    obtain ⟨y, r, rfl, rfl, h2⟩ := h
    simp [RVs.ints h2]
theorem RVs.of_ints : ∀ (ns : List Int), RVs K G w H (ns.map VV.int) (ns.map V.int)
  | [] => by simp [RVs]
  | n :: ns => by simp only [List.map_cons, RVs, RV]; exact ⟨_, _, rfl, rfl, RVs.of_ints ns⟩
theorem RVs.bls : ∀ {ns : List Bool} {y : List V}, RVs K G w H (ns.map VV.bl) y → y = ns.map V.bl
  | [], _, h => by simpa only [List.map_nil, RVs] using h
  | n :: ns, _, h => by
    simp only [List.map_cons, RVs, RV] at h
    obtain ⟨y, r, rfl, rfl, h2⟩ := h
    simp [RVs.bls h2]

theorem Hk.live {h : VH} (k : Hk K G w h H) {a : Addr} (m : w.mut a) : H a ≠ none := by
  rcases m with m | m | m
  · obtain ⟨n, hn⟩ := List.getElem?_of_mem m
    obtain ⟨o, _, r⟩ := k.obj n a hn
    cases o with
    | lst xs =>
      obtain ⟨ys, e, _⟩ := r
      rw [e]
      simp
    | dead => exact r.elim
    | tbl m q =>
      obtain ⟨_, ps, e, _⟩ := r
      rw [e]
      simp
  · exact (k.prot a (.inl m)).1
  · exact (k.prot a (.inr m)).1
theorem Hk.fresh {h : VH} (k : Hk K G w h H) {p : Addr} (hp : H p = none) : ¬ w.mut p := fun m => k.live m hp
/-- a new object that is not mutable -/
theorem Ext.grow {h : VH} (k : Hk K G w h H) {o : HO} {p : Addr} (hp : H p = none) : Ext w H w (upd H p o) where
  keep := fun a u q m => ⟨by rw [upd_ne (ne_of_none q hp)]; exact q, m⟩
  refs := fun _ _ _ q => q
  len := Nat.le_refl _
  P := rfl
  O := rfl
  prot := fun a ha => upd_ne fun e => k.live (.inr ha) (e ▸ hp)
theorem RO.mono (e : Sees w H w' H') : ∀ (o : VO) (a : Addr), (∀ u, H a = some u → H' a = some u) → RO K G w H o a → RO K G w' H' o a
  | .lst xs, a, k, ⟨ys, h1, h2⟩ => ⟨ys, k _ h1, RVs.mono e xs ys h2⟩
  | .dead, _, _, r => r.elim
  | .tbl _ _, a, k, ⟨h0, ps, h1, h2, h3⟩ => ⟨h0, ps, k _ h1, h2, fun pos cv q => by
    obtain ⟨c, e1, e2, e3⟩ := h3 pos cv q
    obtain ⟨e4, e5⟩ := e.keep c _ e2 e3
    exact ⟨c, e1, e4, e5⟩⟩
theorem Hk.grow {h : VH} (k : Hk K G w h H) {o : HO} {p : Addr} (hp : H p = none) (hd : nt o = true := by rfl) : Hk K G w h (upd H p o) where
  len := k.len
  inj := k.inj
  obj := fun n a hn => by
    obtain ⟨u, h1, h2⟩ := k.obj n a hn
    exact ⟨u, h1, RO.mono (Ext.grow k hp).sees u a (fun z q => by rw [upd_ne (ne_of_none q hp)]; exact q) h2⟩
  has := k.has
  prot := fun a ha => by
    obtain ⟨h1, h2⟩ := k.prot a ha
    refine ⟨?_, h2⟩
    rw [upd_ne (show a ≠ p from fun e => h1 (by rw [e]; exact hp))]
    exact h1
  own := k.own
  ownI := k.ownI
  spc := k.spc.new hd (k.fresh hp)
end
end Mv
set_option Elab.async false
set_option linter.all false
set_option maxRecDepth 100000
/-! Mv, part B: mirrors and their judgements; names, constants, operators. -/
namespace Mv
open PySem PySem.Spec PyProof.Rows L2

/-- the text's own names: where its defs and classes stand; the field of each error class -/
structure Gx where
  adr : Nat → Addr
  fld : Nat → Str
abbrev Sv := List (Option VV)
abbrev ME := Sv → VH → Out VV
abbrev MT := Sv → VH → Out Bool
abbrev MA := Sv → VH → Out (List VV)

section
variable (K : PySem.W.Frag) (g : Gx)
abbrev Rel (α β : Type) := Wd → Hp → α → β → Prop
def relV : Rel VV V := fun w H v y => RV K g.adr w H v y
def relVs : Rel (List VV) (List V) := fun w H v y => RVs K g.adr w H v y
def relB : Rel Bool Bool := fun _ _ b c => b = c
def RX (w : Wd) (H : Hp) (x : Exn) (cls : Value) (d : Option Addr) : Prop := cls = .ref (g.adr x.c) ∧ match x.pay with
  | none => True
  | some v => ∃ dd y, d = some dd ∧ H dd = some (.xd [(g.fld x.c, y)]) ∧ ¬ w.mut dd ∧ RV K g.adr w H v y
/-- the slots' values -/
structure RSl (w : Wd) (H : Hp) (sv : Sv) (σ : L2.St) : Prop where
  len : sv.length = σ.length
  get : ∀ (i : Nat) (v : VV), sv[i]? = some (some v) → ∃ y, σ[i]? = some (some y) ∧ RV K g.adr w H v y
theorem RSl.mono {w w' : Wd} {H H' : Hp} {sv : Sv} {σ : L2.St} (h : RSl K g w H sv σ) (e : Sees w H w' H') : RSl K g w' H' sv σ := ⟨h.len, fun i v q =>
  let ⟨y, h1, h2⟩ := h.get i v q
  ⟨y, h1, RV.mono e v y h2⟩⟩
/-- what stands behind a mirror's outcome -/
def Post {α β : Type} (R : Rel α β) (w : Wd) (H : Hp) (σ : L2.St) (Q : β → Hp → Prop) (W : WX) : Out α → Prop
  | .ok v h => ∀ w' H' y, Ext w H w' H' → Hk K g.adr w' h H' → R w' H' v y → Q y H'
  | .exc x h => ∀ w' H' cls d, Ext w H w' H' → Hk K g.adr w' h H' → RX K g w' H' x cls d → W cls d σ H'
  | .bad => False
/-- a mirror as a reading -/
def tG {α β : Type} (R : Rel α β) (m : Sv → VH → Out α) (W : WX) : L2.St → Hp → (β → Hp → Prop) → Prop := fun σ H Q =>
  ∃ w sv h, RSl K g w H sv σ ∧ Hk K g.adr w h H ∧ Post K g R w H σ Q W (m sv h)
end

section
variable {K : PySem.W.Frag} {g : Gx} {α β γ δ : Type} {R : Rel α β} {R' : Rel γ δ} {w w' : Wd} {H H' : Hp} {σ : L2.St} {W : WX} {h : VH} {sv : Sv}
theorem Post.mono {Q : β → Hp → Prop} (e : Ext w H w' H') : ∀ {r : Out α}, Post K g R w H σ Q W r → Post K g R w' H' σ Q W r
  | .ok v h, p => fun w2 H2 y e2 k r => p w2 H2 y (e.trans e2) k r
  | .exc x h, p => fun w2 H2 cls d e2 k r => p w2 H2 cls d (e.trans e2) k r
  | .bad, p => p
theorem Post.imp {Q Q' : β → Hp → Prop} (i : ∀ y H', Q y H' → Q' y H') : ∀ {r : Out α}, Post K g R w H σ Q W r → Post K g R w H σ Q' W r
  | .ok v h, p => fun w2 H2 y e2 k r => i y H2 (p w2 H2 y e2 k r)
  | .exc x h, p => p
  | .bad, p => p
theorem Post.here {Q : β → Hp → Prop} {v : α} {y : β} (p : Post K g R w H σ Q W (.ok v h)) (k : Hk K g.adr w h H) (r : R w H v y) : Q y H := p w H y (Ext.refl w H) k r
theorem tG.mono {Q Q' : β → Hp → Prop} {m : Sv → VH → Out α} (t : tG K g R m W σ H Q) (i : ∀ y H', Q y H' → Q' y H') : tG K g R m W σ H Q' :=
  let ⟨w, sv, h, a, b, c⟩ := t
  ⟨w, sv, h, a, b, c.imp i⟩
/-- a first part, then a rest -/
theorem seqG {Q : δ → Hp → Prop} {m : Sv → VH → Out α} {k : α → VH → Out γ} (rs : RSl K g w H sv σ) (hk : Hk K g.adr w h H) (p : Post K g R' w H σ Q W ((m sv h).bind k)) :
    tG K g R m W σ H (fun y H1 => ∃ w1 h1 v, Ext w H w1 H1 ∧ RSl K g w1 H1 sv σ ∧ Hk K g.adr w1 h1 H1 ∧ R w1 H1 v y ∧ Post K g R' w1 H1 σ Q W (k v h1)) := by
  refine ⟨w, sv, h, rs, hk, ?_⟩
  cases e : m sv h with
  | ok v h1 =>
    rw [e] at p
    exact fun w1 H1 y e1 k1 r => ⟨w1, h1, v, e1, rs.mono _ _ e1.sees, k1, r, Post.mono e1 p⟩
  | exc x h1 =>
    rw [e] at p
    exact p
  | bad =>
    rw [e] at p
    exact p
/-- the slots seen from a later heap -/
theorem seqG' {Q : δ → Hp → Prop} {T : β → Hp → Prop} {m : Sv → VH → Out α} {k : α → VH → Out γ} (rs : RSl K g w H sv σ) (hk : Hk K g.adr w h H) (p : Post K g R' w H σ Q W ((m sv h).bind k))
    (i : ∀ w1 H1 h1 v y, Ext w H w1 H1 → RSl K g w1 H1 sv σ → Hk K g.adr w1 h1 H1 → R w1 H1 v y → Post K g R' w1 H1 σ Q W (k v h1) → T y H1) : tG K g R m W σ H T :=
  (seqG (k := k) rs hk p).mono fun y H1 ⟨w1, h1, v, a, b, c, d, e⟩ => i w1 H1 h1 v y a b c d e
end

/-! ### judgements -/
abbrev RE (X : Cx) (g : Gx) (W : WX) (e : Expr) (m : ME) : Prop := PE X e (tG X.K g (relV X.K g) m W)
abbrev RT (X : Cx) (g : Gx) (W : WX) (e : Expr) (m : MT) : Prop := PT X e (tG X.K g relB m W)
abbrev RW (X : Cx) (g : Gx) (W : WX) (e : Expr) (m : MT) : Prop := PW X e (tG X.K g relB m W)
abbrev RA (X : Cx) (g : Gx) (W : WX) (es : List Expr) (m : MA) : Prop := PA X es (tG X.K g (relVs X.K g) m W)
theorem pe_imp {X : Cx} {e : Expr} {t t' : TE} (h : PE X e t) (i : ∀ σ H Q, t' σ H Q → t σ H Q) : PE X e t' := ⟨fun pins s σ H Q I q => h.run pins s σ H Q I (i σ H Q q)⟩
theorem pt_imp {X : Cx} {e : Expr} {t t' : TT} (h : PT X e t) (i : ∀ σ H Q, t' σ H Q → t σ H Q) : PT X e t' := ⟨fun pins s σ H Q I q => h.run pins s σ H Q I (i σ H Q q)⟩
theorem pw_imp {X : Cx} {e : Expr} {t t' : TT} (h : PW X e t) (i : ∀ σ H Q, t' σ H Q → t σ H Q) : PW X e t' := ⟨fun wh pins s σ H Q I q => h.run wh pins s σ H Q I (i σ H Q q)⟩
theorem pa_imp {X : Cx} {es : List Expr} {t t' : TA} (h : PA X es t) (i : ∀ σ H Q, t' σ H Q → t σ H Q) : PA X es t' := ⟨fun pos pins s σ H Q I q => h.run pos pins s σ H Q I (i σ H Q q)⟩
theorem ps_imp {X : Cx} {st : Stmt} {t t' : TS} (h : PS X st t) (i : ∀ D σ H, t' D σ H → t D σ H) : PS X st t' := ⟨fun pins s σ H D I q => h.run pins s σ H D I (i D σ H q)⟩
theorem pss_imp {X : Cx} {st : List Stmt} {t t' : TS} (h : PSs X st t) (i : ∀ D σ H, t' D σ H → t D σ H) : PSs X st t' := ⟨fun pins s σ H D I q => h.run pins s σ H D I (i D σ H q)⟩

/-! ### names and constants -/
def varM (i : Nat) : ME := fun sv h => match sv[i]? with
  | some (some v) => .ok v h
  | _ => .bad
def cM (v : VV) : ME := fun _ h => .ok v h
section
variable {X : Cx} {g : Gx} {W : WX} {pos : Pos}
theorem re_var (i : Nat) {x : Str} (hN : X.N[i]? = some x := by rfl) (hv : Vis X.env.scope x := by first | exact Or.inl rfl | exact Or.inr (Or.inl rfl) | exact Or.inr (Or.inr rfl)) (hd : (x == ("__debug__" : Str)) = false := by decide)
    (hcd : (x == ("__classdict__" : Str)) = false := by decide) : RE X g W (.Name x pos) (varM i) :=
  pe_imp (pe_var hN hv hd hcd) fun σ H Q ⟨w, sv, h, rs, hk, p⟩ => by
    unfold varM at p
    split at p
    · rename_i v e
      obtain ⟨y, e1, r⟩ := rs.get i v e
      exact ⟨y, e1, p.here hk r⟩
    · exact p.elim
theorem const_imp {v : VV} {y : V} {σ : L2.St} {H : Hp} {Q : VK} (r : ∀ w, RV X.K g.adr w H v y) (t : tG X.K g (relV X.K g) (cM v) W σ H Q) : Q y H := by
  obtain ⟨w, sv, h, rs, hk, p⟩ := t
  exact Post.here p hk (r w)
theorem re_int {i : Int} {j} : RE X g W (.Constant (.int i) j pos) (cM (.int i)) := pe_imp pe_int fun σ H Q t => const_imp (fun _ => by simp only [RV]) t
theorem re_bl {b : Bool} {j} : RE X g W (.Constant (.bool b) j pos) (cM (.bl b)) := pe_imp pe_bl fun σ H Q t => const_imp (fun _ => by simp only [RV]) t
theorem re_non {j} : RE X g W (.Constant .none j pos) (cM .non) := pe_imp pe_non fun σ H Q t => const_imp (fun _ => by simp only [RV]) t
theorem re_str {x : Str} {j} : RE X g W (.Constant (.str x) j pos) (cM (.str x)) := pe_imp pe_str fun σ H Q t => const_imp (fun _ => by simp only [RV]) t
/-- a module's int -/
theorem re_gint {x : Str} {i : Int} (hg : Gl X x) (hm : ∃ t, X.mg x = some (.int i t)) (hd : (x == ("__debug__" : Str)) = false := by decide) : RE X g W (.Name x pos) (cM (.int i)) := by
  obtain ⟨t, hm⟩ := hm
  exact pe_imp (pe_glob (v := .int i) hg hm ⟨t, rfl⟩ hd) fun σ H Q t => const_imp (fun _ => by simp only [RV]) t
/-- a def, a class as a value -/
theorem re_adr {x : Str} {n : Nat} (hg : Gl X x) (hm : X.mg x = some (.ref (g.adr n))) (hd : (x == ("__debug__" : Str)) = false := by decide) : RE X g W (.Name x pos) (cM (.adr n)) :=
  pe_imp (pe_glob (v := .ref (g.adr n)) hg hm rfl hd) fun σ H Q t => const_imp (fun _ => by simp only [RV]) t
end

/-! ### operators -/
abbrev V2 := VV → VV → VH → Out VV
def opM (f : V2) (a b : ME) : ME := fun sv h => (a sv h).bind fun x h1 => (b sv h1).bind fun y h2 => f x y h2
def unM (f : VV → VH → Out VV) (a : ME) : ME := fun sv h => (a sv h).bind fun x h1 => f x h1
/-- a value function that a reading of values serves -/
def OpS (K : PySem.W.Frag) (g : Gx) (r : R2) (f : V2) : Prop := ∀ (w : Wd) (h : VH) (H : Hp) (σ : L2.St) (W : WX) (Q : VK) (x y : VV) (vx vy : V), Hk K g.adr w h H → RV K g.adr w H x vx → RV K g.adr w H y vy →
  Post K g (relV K g) w H σ Q W (f x y h) → r vx vy H Q
section
variable {X : Cx} {g : Gx} {W : WX} {a b c : Expr} {ma mb mc : ME} {pos : Pos}
theorem op_imp {r : R2} {f : V2} (hf : OpS X.K g r f) {σ : L2.St} {H : Hp} {Q : VK} (t : tG X.K g (relV X.K g) (opM f ma mb) W σ H Q) :
    tOp r (tG X.K g (relV X.K g) ma W) (tG X.K g (relV X.K g) mb W) σ H Q := by
  obtain ⟨w, sv, h, rs, hk, p⟩ := t
  refine seqG' rs hk p fun w1 H1 h1 v y e1 rs1 k1 r1 p1 => ?_
  refine seqG' rs1 k1 p1 fun w2 H2 h2 v2 y2 e2 rs2 k2 r2 p2 => ?_
  exact hf w2 h2 H2 σ W Q v v2 y y2 k2 (RV.mono e2.sees _ _ r1) r2 p2
theorem re_op {op : Operator} {r : R2} {f : V2} (ho : OpR X (binaryOp op) r) (hf : OpS X.K g r f) (ha : RE X g W a ma) (hb : RE X g W b mb) : RE X g W (.BinOp a op b pos) (opM f ma mb) :=
  pe_imp (pe_op ho ha hb) fun σ H Q t => op_imp hf t
theorem re_cmp {op : CmpOp} {r : R2} {f : V2} (ho : OpR X (compareOp op) r) (hf : OpS X.K g r f) (ha : RE X g W a ma) (hb : RE X g W b mb) (hm : behindInMarks op b = false := by first | exact nomark _ | rfl) : RE X g W (.Compare a [op] [b] pos) (opM f ma mb) :=
  pe_imp (pe_cmpR ho ha hb hm) fun σ H Q t => op_imp hf t
/-- a value as a test -/
def blM (m : ME) : MT := fun sv h => (m sv h).bind fun x h1 => match x with
  | .bl b => .ok b h1
  | _ => .bad
theorem bl_imp {σ : L2.St} {H : Hp} {Q : Bool → Hp → Prop} (t : tG X.K g relB (blM ma) W σ H Q) : tG X.K g (relV X.K g) ma W σ H fun x H1 => ∃ k, x = .bl k ∧ Q k H1 := by
  obtain ⟨w, sv, h, rs, hk, p⟩ := t
  refine seqG' rs hk p fun w1 H1 h1 v y e1 rs1 k1 r1 p1 => ?_
  cases v with
  | bl b =>
    have e : y = .bl b := by simpa only [relV, RV] using r1
    exact ⟨b, e, Post.here p1 k1 rfl⟩
  | _ => exact p1.elim
theorem rt_cmp {op : CmpOp} {r : R2} {f : V2} (ho : OpR X (compareOp op) r) (hf : OpS X.K g r f) (ha : RE X g W a ma) (hb : RE X g W b mb) (hm : behindInMarks op b = false := by first | exact nomark _ | rfl) : RT X g W (.Compare a [op] [b] pos) (blM (opM f ma mb)) :=
  pt_imp (pt_cmpR ho ha hb hm) fun σ H Q t => op_imp hf (bl_imp t)
/-- a chain of two comparisons -/
def chainM (f f' : V2) (ma mb mc : ME) : ME := fun sv h => (ma sv h).bind fun x h1 => (mb sv h1).bind fun y h2 => (f x y h2).bind fun z h3 => match z with
  | .bl true => (mc sv h3).bind fun u h4 => f' y u h4
  | .bl false => .ok (.bl false) h3
  | _ => .bad
theorem OpS.then {K : PySem.W.Frag} {r : R2} {f : V2} (hf : OpS K g r f) {w : Wd} {h : VH} {H : Hp} {σ : L2.St} {α β : Type} {R : Rel α β} {Q : β → Hp → Prop} {x y : VV} {vx vy : V} {k : VV → VH → Out α} (hk : Hk K g.adr w h H) (rx : RV K g.adr w H x vx) (ry : RV K g.adr w H y vy)
    (p : Post K g R w H σ Q W ((f x y h).bind k)) : r vx vy H (fun z H1 => ∃ w1 h1 v, Ext w H w1 H1 ∧ Hk K g.adr w1 h1 H1 ∧ RV K g.adr w1 H1 v z ∧ Post K g R w1 H1 σ Q W (k v h1)) := by
  refine hf w h H σ W _ x y vx vy hk rx ry ?_
  cases e : f x y h with
  | ok v h1 =>
    rw [e] at p
    exact fun w1 H1 y e1 k1 r => ⟨w1, h1, v, e1, k1, r, Post.mono e1 p⟩
  | exc x h1 => rw [e] at p; exact p
  | bad => rw [e] at p; exact p
theorem chain_imp {r r' : R2} {f f' : V2} (hf : OpS X.K g r f) (hf' : OpS X.K g r' f') (mono : ∀ x y H Q Q', (∀ z H', Q z H' → Q' z H') → r x y H Q → r x y H Q') {σ : L2.St} {H : Hp} {Q : VK} (t : tG X.K g (relV X.K g) (chainM f f' ma mb mc) W σ H Q) :
    tChain r r' (tG X.K g (relV X.K g) ma W) (tG X.K g (relV X.K g) mb W) (tG X.K g (relV X.K g) mc W) σ H Q := by
  obtain ⟨w, sv, h, rs, hk, p⟩ := t
  refine seqG' rs hk p fun w1 H1 h1 v y e1 rs1 k1 r1 p1 => ?_
  refine seqG' rs1 k1 p1 fun w2 H2 h2 v2 y2 e2 rs2 k2 r2 p2 => ?_
  refine mono _ _ _ _ _ ?_ (hf.then k2 (RV.mono e2.sees _ _ r1) r2 p2)
  rintro z H3 ⟨w3, h3, v3, e3, k3, r3, p3⟩
  split at p3
  · have e : z = .bl true := by simpa only [RV] using r3
    refine ⟨true, e, iteT ?_⟩
    refine seqG' (rs2.mono _ _ e3.sees) k3 p3 fun w4 H4 h4 v4 y4 e4 rs4 k4 r4 p4 => ?_
    exact hf' w4 h4 H4 σ W Q v2 v4 y2 y4 k4 (RV.mono (e3.trans e4).sees _ _ r2) r4 p4
  · have e : z = .bl false := by simpa only [RV] using r3
    exact ⟨false, e, iteF (Post.here p3 k3 (by simp only [relV, RV]))⟩
  · exact p3.elim
theorem re_chain {op op' : CmpOp} {r r' : R2} {f f' : V2} (ho : OpR X (compareOp op) r) (hf : OpS X.K g r f) (ho' : OpR X (compareOp op') r') (hf' : OpS X.K g r' f') (mono : ∀ x y H Q Q', (∀ z H', Q z H' → Q' z H') → r x y H Q → r x y H Q')
    (ha : RE X g W a ma) (hb : RE X g W b mb) (hc : RE X g W c mc) (hm : lastMarks [op, op'] [b, c] = false := by with_unfolding_all rfl) : RE X g W (.Compare a [op, op'] [b, c] pos) (chainM f f' ma mb mc) :=
  pe_imp (pe_chain ho ho' ha hb hc hm) fun σ H Q t => chain_imp hf hf' mono t
theorem rt_chain {op op' : CmpOp} {r r' : R2} {f f' : V2} (ho : OpR X (compareOp op) r) (hf : OpS X.K g r f) (ho' : OpR X (compareOp op') r') (hf' : OpS X.K g r' f') (mono : ∀ x y H Q Q', (∀ z H', Q z H' → Q' z H') → r x y H Q → r x y H Q')
    (ha : RE X g W a ma) (hb : RE X g W b mb) (hc : RE X g W c mc) (hm : lastMarks [op, op'] [b, c] = false := by with_unfolding_all rfl) : RT X g W (.Compare a [op, op'] [b, c] pos) (blM (chainM f f' ma mb mc)) :=
  pt_imp (pt_chain ho ho' ha hb hc hm) fun σ H Q t => chain_imp hf hf' mono (bl_imp t)

/-! ### and, or, not, if -/
theorem rt_val {e : Expr} {m : ME} (h : RE X g W e m) (he : ∀ whole, isTrue e X.env whole = (do let v ← whole; standAt e.pos; holding [v] (truthy v)) := by intro _; rfl) : RT X g W e (blM m) :=
  pt_imp (pt_val h he) fun σ H Q t => bl_imp t
def andT (a b : MT) : MT := fun sv h => (a sv h).bind fun c h1 => if c then b sv h1 else .ok false h1
def orT (a b : MT) : MT := fun sv h => (a sv h).bind fun c h1 => if c then .ok true h1 else b sv h1
def notT (a : MT) : MT := fun sv h => (a sv h).bind fun c h1 => .ok (!c) h1
variable {ta tb : MT} {rest : List Expr}
theorem rw_and1 (ha : RT X g W a ta) : RW X g W (.BoolOp .And [a] pos) ta := pw_and1 ha
theorem rw_or1 (ha : RT X g W a ta) : RW X g W (.BoolOp .Or [a] pos) ta := pw_or1 ha
theorem rw_and (ha : RT X g W a ta) (hb : RW X g W (.BoolOp .And (b :: rest) pos) tb) : RW X g W (.BoolOp .And (a :: b :: rest) pos) (andT ta tb) :=
  pw_imp (pw_and ha hb) fun σ H Q t => by
    obtain ⟨w, sv, h, rs, hk, p⟩ := t
    refine seqG' rs hk p fun w1 H1 h1 v y e1 rs1 k1 r1 p1 => ?_
    have e : v = y := r1
    subst e
    cases v with
    | true => exact iteT ⟨w1, sv, h1, rs1, k1, p1⟩
    | false => exact iteF (Post.here p1 k1 rfl)
theorem rw_or (ha : RT X g W a ta) (hb : RW X g W (.BoolOp .Or (b :: rest) pos) tb) : RW X g W (.BoolOp .Or (a :: b :: rest) pos) (orT ta tb) :=
  pw_imp (pw_or ha hb) fun σ H Q t => by
    obtain ⟨w, sv, h, rs, hk, p⟩ := t
    refine seqG' rs hk p fun w1 H1 h1 v y e1 rs1 k1 r1 p1 => ?_
    have e : v = y := r1
    subst e
    cases v with
    | true => exact iteT (Post.here p1 k1 rfl)
    | false => exact iteF ⟨w1, sv, h1, rs1, k1, p1⟩
theorem rt_w {e : Expr} (h : RW X g W e ta) : RT X g W e ta := h.pt
theorem rt_not (ha : RT X g W a ta) : RT X g W (.UnaryOp .Not a pos) (notT ta) :=
  pt_imp (pt_not ha) fun σ H Q t => by
    obtain ⟨w, sv, h, rs, hk, p⟩ := t
    refine seqG' rs hk p fun w1 H1 h1 v y e1 rs1 k1 r1 p1 => ?_
    have e : v = y := r1
    subst e
    exact Post.here p1 k1 rfl
/-- .. as values -/
def andV (a b : ME) : ME := fun sv h => (a sv h).bind fun x h1 => match x with
  | .bl true => b sv h1
  | .bl false => .ok (.bl false) h1
  | _ => .bad
def orV (a b : ME) : ME := fun sv h => (a sv h).bind fun x h1 => match x with
  | .bl true => .ok (.bl true) h1
  | .bl false => b sv h1
  | _ => .bad
def notV (a : ME) : ME := fun sv h => (a sv h).bind fun x h1 => match x with
  | .bl c => .ok (.bl (!c)) h1
  | _ => .bad
theorem re_one {op} {m : ME} (h : RE X g W a m) : RE X g W (.BoolOp op [a] pos) m := pe_one h
theorem re_and (ha : RE X g W a ma) (hb : RE X g W (.BoolOp .And (b :: rest) pos) mb) : RE X g W (.BoolOp .And (a :: b :: rest) pos) (andV ma mb) :=
  pe_imp (pe_and ha hb) fun σ H Q t => by
    obtain ⟨w, sv, h, rs, hk, p⟩ := t
    refine seqG' rs hk p fun w1 H1 h1 v y e1 rs1 k1 r1 p1 => ?_
    split at p1
    · have e : y = .bl true := by simpa only [relV, RV] using r1
      exact ⟨true, e, iteT ⟨w1, sv, h1, rs1, k1, p1⟩⟩
    · have e : y = .bl false := by simpa only [relV, RV] using r1
      exact ⟨false, e, iteF (Post.here p1 k1 (by simp only [relV, RV]))⟩
    · exact p1.elim
theorem re_or (ha : RE X g W a ma) (hb : RE X g W (.BoolOp .Or (b :: rest) pos) mb) : RE X g W (.BoolOp .Or (a :: b :: rest) pos) (orV ma mb) :=
  pe_imp (pe_or ha hb) fun σ H Q t => by
    obtain ⟨w, sv, h, rs, hk, p⟩ := t
    refine seqG' rs hk p fun w1 H1 h1 v y e1 rs1 k1 r1 p1 => ?_
    split at p1
    · have e : y = .bl true := by simpa only [relV, RV] using r1
      exact ⟨true, e, iteT (Post.here p1 k1 (by simp only [relV, RV]))⟩
    · have e : y = .bl false := by simpa only [relV, RV] using r1
      exact ⟨false, e, iteF ⟨w1, sv, h1, rs1, k1, p1⟩⟩
    · exact p1.elim
theorem re_not (ha : RE X g W a ma) : RE X g W (.UnaryOp .Not a pos) (notV ma) :=
  pe_imp (pe_not ha) fun σ H Q t => by
    obtain ⟨w, sv, h, rs, hk, p⟩ := t
    refine seqG' rs hk p fun w1 H1 h1 v y e1 rs1 k1 r1 p1 => ?_
    split at p1
    · rename_i c
      have e : y = .bl c := by simpa only [relV, RV] using r1
      exact ⟨c, e, Post.here p1 k1 (by simp only [relV, RV])⟩
    · exact p1.elim
def ifM (c : MT) (a b : ME) : ME := fun sv h => (c sv h).bind fun k h1 => if k then a sv h1 else b sv h1
theorem re_if {mt : MT} (hc : RT X g W c mt) (ha : RE X g W a ma) (hb : RE X g W b mb) : RE X g W (.IfExp c a b pos) (ifM mt ma mb) :=
  pe_imp (pe_ifExp hc ha hb) fun σ H Q t => by
    obtain ⟨w, sv, h, rs, hk, p⟩ := t
    refine seqG' rs hk p fun w1 H1 h1 v y e1 rs1 k1 r1 p1 => ?_
    have e : v = y := r1
    subst e
    cases v with
    | true => exact iteT ⟨w1, sv, h1, rs1, k1, p1⟩
    | false => exact iteF ⟨w1, sv, h1, rs1, k1, p1⟩
end
end Mv
set_option Elab.async false
set_option linter.all false
set_option maxRecDepth 100000
/-! Mv, part C: operators and built-ins by values. -/
namespace Mv
open PySem PySem.Spec PyProof.Rows L2

def fits (n : Nat) : Bool := Nat.ble n 16777216
theorem fits_le {n : Nat} (h : fits n = true) : n ≤ sizeLine := by
  rw [sizeLine_eq]
  exact Nat.le_of_ble_eq_true h

section
variable {K : PySem.W.Frag} {g : Gx} {w : Wd} {H : Hp} {σ : L2.St} {W : WX} {h : VH} {Q : VK}
theorem RV.tup_of {G : Nat → Addr} {a : Addr} {xs : List VV} {ys : List V} (h1 : H a = some (.tup ys)) (h2 : ¬ w.mut a) (h3 : RVs K G w H xs ys) : RV K G w H (.tup xs) (.ref a) := by
  simp only [RV]
  exact ⟨a, ys, rfl, .inl ⟨h1, h2⟩, h3⟩
theorem RV.lst_of {G : Nat → Addr} {a : Addr} {xs : List VV} {ys : List V} (h1 : H a = some (.lst ys)) (h2 : ¬ w.mut a) (h3 : RVs K G w H xs ys) : RV K G w H (.lst xs) (.ref a) := by
  simp only [RV]
  exact ⟨a, ys, rfl, ⟨h1, h2⟩, h3⟩
theorem RV.tup_get {G : Nat → Addr} {xs : List VV} {y : V} (r : RV K G w H (.tup xs) y) : ∃ a ys, y = .ref a ∧ SqT K H a ys ∧ RVs K G w H xs ys := by
  simp only [RV] at r
  obtain ⟨a, ys, e, h, r⟩ := r
  exact ⟨a, ys, e, h.elim (fun q => .inl (.inl q.1)) .inr, r⟩
theorem RV.lst_get {G : Nat → Addr} {xs : List VV} {y : V} (r : RV K G w H (.lst xs) y) : ∃ a ys, y = .ref a ∧ H a = some (.lst ys) ∧ RVs K G w H xs ys := by
  simp only [RV] at r
  obtain ⟨a, ys, e, h, r⟩ := r
  exact ⟨a, ys, e, h.1, r⟩
theorem RV.rol_get {G : Nat → Addr} {xs : List VV} {y : V} (r : RV K G w H (.rol xs) y) : ∃ a ys, y = .ref a ∧ SqL K H a ys ∧ RVs K G w H xs ys := by
  simp only [RV] at r
  obtain ⟨a, ys, e, h, r⟩ := r
  exact ⟨a, ys, e, h.elim (fun ⟨o, q, _⟩ => .inl (.inr ⟨o, q⟩)) .inr, r⟩
/-- a new list, a new tuple -/
theorem post_newl {xs : List VV} {ys : List V} {p : Addr} (po : Post K g (relV K g) w H σ Q W (.ok (.lst xs) h)) (k : Hk K g.adr w h H) (r : RVs K g.adr w H xs ys) (hp : H p = none) : Q (.ref p) (upd H p (.lst ys)) :=
  po w _ _ (Ext.grow k hp) (Hk.grow k hp) (RV.lst_of upd_same (k.fresh hp) (RVs.mono (Ext.grow k hp).sees _ _ r))
theorem post_newt {xs : List VV} {ys : List V} {p : Addr} (po : Post K g (relV K g) w H σ Q W (.ok (.tup xs) h)) (k : Hk K g.adr w h H) (r : RVs K g.adr w H xs ys) (hp : H p = none) : Q (.ref p) (upd H p (.tup ys)) :=
  po w _ _ (Ext.grow k hp) (Hk.grow k hp) (RV.tup_of upd_same (k.fresh hp) (RVs.mono (Ext.grow k hp).sees _ _ r))
theorem post_int {i : Int} (po : Post K g (relV K g) w H σ Q W (.ok (.int i) h)) (k : Hk K g.adr w h H) : Q (.int i) H := Post.here po k (by simp only [relV, RV])
theorem post_bl {i : Bool} (po : Post K g (relV K g) w H σ Q W (.ok (.bl i) h)) (k : Hk K g.adr w h H) : Q (.bl i) H := Post.here po k (by simp only [relV, RV])
theorem post_str {i : Str} (po : Post K g (relV K g) w H σ Q W (.ok (.str i) h)) (k : Hk K g.adr w h H) : Q (.str i) H := Post.here po k (by simp only [relV, RV])
theorem post_non (po : Post K g (relV K g) w H σ Q W (.ok .non h)) (k : Hk K g.adr w h H) : Q .non H := Post.here po k (by simp only [relV, RV])
theorem RVs.nil_of {G : Nat → Addr} {xs : List VV} {ys : List V} (r : RVs K G w H xs ys) (e : ys = []) : xs = [] := List.length_eq_zero_iff.mp (by rw [r.length, e]; rfl)
theorem RV.int_eq {G : Nat → Addr} {i : Int} {y : V} (r : RV K G w H (.int i) y) : y = .int i := by simpa only [RV] using r
theorem RV.bl_eq {G : Nat → Addr} {i : Bool} {y : V} (r : RV K G w H (.bl i) y) : y = .bl i := by simpa only [RV] using r
theorem RV.str_eq {G : Nat → Addr} {i : Str} {y : V} (r : RV K G w H (.str i) y) : y = .str i := by simpa only [RV] using r
end

/-! ### ints -/
def addV : V2 := fun x y h => match x with
  | .int i => (match y with | .int j => .ok (.int (i + j)) h | .bl k => .ok (.int (i + b2i k)) h | _ => .bad)
  | .lst xs => (match y with | .lst ys => if fits (xs.length + ys.length) then .ok (.lst (xs ++ ys)) h else .bad | _ => .bad)
  | .tup xs => (match y with | .tup ys => if fits (xs.length + ys.length) then .ok (.tup (xs ++ ys)) h else .bad | _ => .bad)
  | .str a => (match y with | .str b => if fits (a.length + b.length) then .ok (.str (a ++ b)) h else .bad | _ => .bad)
  | _ => .bad
abbrev rAddS : R2 := fun x y H Q => ∃ i j, x = .str i ∧ y = .str j ∧ i.length + j.length ≤ sizeLine ∧ Q (.str (i ++ j)) H
abbrev rAddB : R2 := fun x y H Q => ∃ i k, x = .int i ∧ y = .bl k ∧ Q (.int (i + b2i k)) H
abbrev rAddA (K : PySem.W.Frag) : R2 := fun x y H Q => rI0 (fun i j => .int (i + j)) x y H Q ∨ (rAddB x y H Q ∨ (rCat x y H Q ∨ (rCatA K x y H Q ∨ rAddS x y H Q)))
theorem op_addA {X : Cx} : OpR X (binaryOp .Add) (rAddA X.K) := op_add.or (op_add_ib.or (op_cat.or (op_catA.or op_add_str)))
theorem addS {K : PySem.W.Frag} {g : Gx} : OpS K g (rAddA K) addV := by
  intro w h H σ W Q x y vx vy hk rx ry p
  unfold addV at p
  split at p
  · split at p
    · exact .inl ⟨_, _, rx.int_eq, ry.int_eq, post_int p hk⟩
    · exact .inr (.inl ⟨_, _, rx.int_eq, ry.bl_eq, post_int p hk⟩)
    · exact p.elim
  · split at p
    · split at p
      · rename_i hf
        obtain ⟨a, xs', rfl, ha, r1⟩ := rx.lst_get
        obtain ⟨b, ys', rfl, hb, r2⟩ := ry.lst_get
        exact .inr (.inr (.inl ⟨a, b, xs', ys', rfl, rfl, ha, hb, by rw [← r1.length, ← r2.length]; exact fits_le hf, fun q hq => post_newl p hk (r1.app r2) hq⟩))
      · exact p.elim
    · exact p.elim
  · split at p
    · split at p
      · rename_i hf
        obtain ⟨a, xs', rfl, ha, r1⟩ := rx.tup_get
        obtain ⟨b, ys', rfl, hb, r2⟩ := ry.tup_get
        refine .inr (.inr (.inr (.inl ⟨a, b, xs', ys', rfl, rfl, ha, hb, by rw [← r1.length, ← r2.length]; exact fits_le hf, fun e => ?_, fun e1 e2 => ?_, fun _ _ q hq => post_newt p hk (r1.app r2) hq⟩)))
        · rw [RVs.nil_of r1 e, List.nil_append] at p
          exact Post.here p hk ry
        · rw [RVs.nil_of r2 e2, List.append_nil] at p
          exact Post.here p hk rx
      · exact p.elim
    · exact p.elim
  · split at p
    · split at p
      · rename_i hf
        exact .inr (.inr (.inr (.inr ⟨_, _, rx.str_eq, ry.str_eq, fits_le hf, post_str p hk⟩)))
      · exact p.elim
    · exact p.elim
  · exact p.elim

/-- an int operation under a test -/
def intV (c : Int → Int → Bool) (f : Int → Int → Int) : V2 := fun x y h => match x with
  | .int i => (match y with | .int j => if c i j then .ok (.int (f i j)) h else .bad | _ => .bad)
  | _ => .bad
theorem intS {K : PySem.W.Frag} {g : Gx} {C : Int → Int → Prop} {c : Int → Int → Bool} {f : Int → Int → Int} (hc : ∀ i j, c i j = true → C i j) : OpS K g (rI C fun i j => .int (f i j)) (intV c f) := by
  intro w h H σ W Q x y vx vy hk rx ry p
  unfold intV at p
  split at p
  · split at p
    · split at p
      · rename_i hf
        exact ⟨_, _, rx.int_eq, ry.int_eq, hc _ _ hf, post_int p hk⟩
      · exact p.elim
    · exact p.elim
  · exact p.elim
def subV : V2 := intV (fun _ _ => true) fun i j => i - j
theorem op_subA {X : Cx} : OpR X (binaryOp .Sub) (rI (fun _ _ => True) fun i j => .int (i - j)) := opI fun _ _ _ _ _ _ _ _ q => sub_int q
theorem subS {K : PySem.W.Frag} {g : Gx} : OpS K g (rI (fun _ _ => True) fun i j => .int (i - j)) subV := intS fun _ _ _ => trivial
/-- the bits of a number (as the model counts them), by Nat.log2 alone -/
def bitsN (i : Int) : Nat := match i with
  | .ofNat 0 => 0
  | .ofNat (n + 1) => Nat.log2 (n + 1) + 1
  | .negSucc n => Nat.log2 (n + 1) + 1
theorem bitsN_eq (i : Int) : bitsN i = Builtin.Int.intBits i := by
  unfold bitsN Builtin.Int.intBits
  split
  · rfl
  · rename_i n
    rw [if_neg (by first | (simp; done) | (simp; omega))]
    rfl
  · rename_i n
    rw [if_neg (by first | (simp; done) | (simp; omega))]
    rfl
def mulC (i j : Int) : Bool := Nat.ble (bitsN i + bitsN j) 134217728
theorem mulC_ok {i j : Int} (h : mulC i j = true) : CMulX i j := by
  have := Nat.le_of_ble_eq_true h
  rw [bitsN_eq, bitsN_eq] at this
  unfold CMulX
  omega
/-- n times a list, a tuple: any count up to 2 ^ 24 -/
def repL (xs : List VV) (k : Int) : Option (List VV) := match k with
  | .ofNat n => if Nat.ble (xs.length * n) 16777216 && Nat.ble n 16777216 then some (List.replicate n xs).flatten else none
  | .negSucc _ => none
def mulV : V2 := fun x y h => match x with
  | .int i => (match y with | .int j => if mulC i j then .ok (.int (i * j)) h else .bad | _ => .bad)
  | .lst xs => (match y with | .int k => (match repL xs k with | some zs => .ok (.lst zs) h | none => .bad) | _ => .bad)
  | .tup xs => (match y with | .int k => (match (if !xs.isEmpty && decide (2 ≤ k) && decide (k ≤ 1000) && Nat.ble xs.length 1000 then repL xs k else none) with | some zs => .ok (.tup zs) h | none => .bad) | _ => .bad)
  | _ => .bad
theorem RVs.rep {K : PySem.W.Frag} {G : Nat → Addr} {w : Wd} {H : Hp} {xs : List VV} {ys : List V} (r : RVs K G w H xs ys) : ∀ n : Nat, RVs K G w H (List.replicate n xs).flatten (List.replicate n ys).flatten
  | 0 => by simp [RVs]
  | n + 1 => by
    rw [List.replicate_succ, List.replicate_succ, List.flatten_cons, List.flatten_cons]
    exact RVs.app r (RVs.rep r n)
abbrev rMulA (K : PySem.W.Frag) : R2 := fun x y H Q => rI CMulX (fun i j => .int (i * j)) x y H Q ∨ (rRep x y H Q ∨ rRepT K x y H Q)
theorem op_mulA {X : Cx} : OpR X (binaryOp .Mult) (rMulA X.K) := op_mulX.or (op_rep.or op_repT)
theorem repL_ok {xs zs : List VV} {k : Int} (h : repL xs k = some zs) : 0 ≤ k ∧ k ≤ 16777216 ∧ xs.length * k.toNat ≤ 16777216 ∧ zs = (List.replicate k.toNat xs).flatten := by
  unfold repL at h
  split at h
  · rename_i n
    split at h
    · rename_i hc
      obtain ⟨h1, h2⟩ := Bool.and_eq_true_iff.mp hc
      have h1 := Nat.le_of_ble_eq_true h1
      have h2 := Nat.le_of_ble_eq_true h2
      refine ⟨Int.natCast_nonneg _, by show ((n : Nat) : Int) ≤ 16777216; omega, h1, (Option.some.inj h).symm⟩
    · cases h
  · cases h
theorem mulS {K : PySem.W.Frag} {g : Gx} : OpS K g (rMulA K) mulV := by
  intro w h H σ W Q x y vx vy hk rx ry p
  unfold mulV at p
  split at p
  · split at p
    · split at p
      · rename_i hf
        exact .inl ⟨_, _, rx.int_eq, ry.int_eq, mulC_ok hf, post_int p hk⟩
      · exact p.elim
    · exact p.elim
  · split at p
    · rename_i xs _ k
      split at p
      · rename_i zs e
        obtain ⟨h0, h1, h2, rfl⟩ := repL_ok e
        obtain ⟨a, xs', rfl, ha, r1⟩ := rx.lst_get
        refine .inr (.inl ⟨a, k, xs', rfl, ry.int_eq, ha, by omega, by omega, by rw [← r1.length, sizeLine_eq]; exact h2, fun q hq => post_newl p hk (r1.rep _) hq⟩)
      · exact p.elim
    · exact p.elim
  · split at p
    · rename_i xs _ k
      split at p
      · rename_i zs e
        split at e
        · rename_i hc
          simp only [Bool.and_eq_true, Bool.not_eq_true', decide_eq_true_eq] at hc
          obtain ⟨⟨⟨hc1, hc2⟩, hc3⟩, hc4⟩ := hc
          have hc4 := Nat.le_of_ble_eq_true hc4
          obtain ⟨h0, h1, h2, rfl⟩ := repL_ok e
          obtain ⟨a, xs', rfl, ha, r1⟩ := rx.tup_get
          refine .inr (.inr ⟨a, k, xs', rfl, ry.int_eq, ha, ?_, hc2, hc3, by rw [← r1.length]; exact hc4, fun q hq => post_newt p hk (r1.rep _) hq⟩)
          rintro rfl
          have := r1.length
          rw [List.length_nil, List.length_eq_zero_iff] at this
          rw [this] at hc1
          cases hc1
        · cases e
      · exact p.elim
    · exact p.elim
  · exact p.elim
/-- // and % by a positive number -/
def pylongN (i j : Int) : Bool := Builtin.divisionGoesByPylong i j
def fdivV : V2 := intV (fun i j => decide (0 < j) && !pylongN i j) fun i j => i / j
theorem op_fdivA {X : Cx} : OpR X (binaryOp .FloorDiv) (rI CDivP fun i j => .int (i / j)) := opI fun i j _ _ _ _ _ hc q => by
  have h1 : (0 : Int) < j := hc.1
  exact floordiv_int (by omega) (by rw [Int.fdiv_eq_ediv_of_nonneg i (by omega)]; exact q) (.inl hc.2)
theorem fdivS {K : PySem.W.Frag} {g : Gx} : OpS K g (rI CDivP fun i j => .int (i / j)) fdivV := intS fun i j hc => by
  simp only [Bool.and_eq_true, decide_eq_true_eq, Bool.not_eq_true'] at hc
  exact ⟨hc.1, hc.2⟩
def modV : V2 := intV (fun i j => decide (0 < j)) fun i j => i % j
theorem modS {K : PySem.W.Frag} {g : Gx} : OpS K g (rI (fun _ j => 0 < j) fun i j => .int (i % j)) modV := intS fun i j hc => of_decide_eq_true hc
/-- i ** n -/
def CPowX (i j : Int) : Prop := 0 ≤ j ∧ (Builtin.Int.intBits i : Int) * j ≤ 2 ^ 27
def powV : V2 := intV (fun i j => decide (0 ≤ j) && Nat.ble (bitsN i * j.toNat) 134217728) fun i j => i ^ j.toNat
theorem op_powA {X : Cx} : OpR X (binaryOp .Pow) (rI CPowX fun i j => .int (i ^ j.toNat)) := opI fun _ _ _ _ _ _ _ hc q => pow_int hc.1 hc.2 q
theorem powS {K : PySem.W.Frag} {g : Gx} : OpS K g (rI CPowX fun i j => .int (i ^ j.toNat)) powV := intS fun i j hc => by
  simp only [Bool.and_eq_true, decide_eq_true_eq] at hc
  obtain ⟨h1, h2⟩ := hc
  have h2 := Nat.le_of_ble_eq_true h2
  rw [bitsN_eq] at h2
  refine ⟨h1, ?_⟩
  have e : (j.toNat : Int) = j := Int.toNat_of_nonneg h1
  rw [← e, ← Int.natCast_mul]
  omega
def shlV : V2 := intV (fun i j => decide (0 ≤ j) && Nat.ble (bitsN i + j.toNat) 134217728) fun i j => i * 2 ^ j.toNat
theorem shlS {K : PySem.W.Frag} {g : Gx} : OpS K g (rI CShl fun i j => .int (i * 2 ^ j.toNat)) shlV := intS fun i j hc => by
  simp only [Bool.and_eq_true, decide_eq_true_eq] at hc
  obtain ⟨h1, h2⟩ := hc
  have h2 := Nat.le_of_ble_eq_true h2
  rw [bitsN_eq] at h2
  refine ⟨h1, ?_⟩
  have e : (j.toNat : Int) = j := Int.toNat_of_nonneg h1
  omega

/-! ### comparisons -/
def cmpV (f : Int → Int → Bool) : V2 := fun x y h => match x with
  | .int i => (match y with | .int j => .ok (.bl (f i j)) h | _ => .bad)
  | _ => .bad
theorem cmpS {K : PySem.W.Frag} {g : Gx} {f : Int → Int → Bool} : OpS K g (rI0 fun i j => .bl (f i j)) (cmpV f) := by
  intro w h H σ W Q x y vx vy hk rx ry p
  unfold cmpV at p
  split at p
  · split at p
    · exact ⟨_, _, rx.int_eq, ry.int_eq, post_bl p hk⟩
    · exact p.elim
  · exact p.elim
def ltV : V2 := cmpV fun i j => decide (i < j)
def leV : V2 := cmpV fun i j => decide (i ≤ j)
def gtV : V2 := cmpV fun i j => decide (j < i)
def geV : V2 := cmpV fun i j => decide (j ≤ i)
theorem rI0_mono {f : Int → Int → V} : ∀ x y H Q Q', (∀ z H', Q z H' → Q' z H') → rI0 f x y H Q → rI0 f x y H Q' := fun _ _ _ _ _ i ⟨a, b, e1, e2, q⟩ => ⟨a, b, e1, e2, i _ _ q⟩

/-! ### data -/
mutual
def toPy : VV → Option PyData
  | .non => some .none
  | .bl b => some (.bool b)
  | .int i => some (.int i)
  | .str x => some (.str x)
  | .tup xs => (toPys xs).map .tuple
  | .lst xs => (toPys xs).map .list
  | .rol xs => (toPys xs).map .list
  | _ => none
def toPys : List VV → Option (List PyData)
  | [] => some []
  | x :: xs => (toPy x).bind fun d => (toPys xs).map fun ds => d :: ds
end
section
variable {K : PySem.W.Frag} {G : Nat → Addr} {w : Wd} {H : Hp}
mutual
theorem toPy_ok : ∀ (x : VV) (d : PyData) (y : V), toPy x = some d → RV K G w H x y → Dp K H y d
  | .non, _, _, e, r => by
    simp only [toPy, Option.some.injEq] at e
    simp only [RV] at r
    subst e r
    exact .non
  | .bl b, _, _, e, r => by
    simp only [toPy, Option.some.injEq] at e
    simp only [RV] at r
    subst e r
    exact .bl b
  | .int b, _, _, e, r => by
    simp only [toPy, Option.some.injEq] at e
    simp only [RV] at r
    subst e r
    exact .int b
  | .str b, _, _, e, r => by
    simp only [toPy, Option.some.injEq] at e
    simp only [RV] at r
    subst e r
    exact .str b
  | .tup xs, _, _, e, r => by
    simp only [toPy, Option.map_eq_some_iff] at e
    obtain ⟨ds, e1, rfl⟩ := e
    obtain ⟨a, ys, rfl, ha, r2⟩ := r.tup_get
    exact .tup ha (toPys_ok xs ds ys e1 r2)
  | .lst xs, _, _, e, r => by
    simp only [toPy, Option.map_eq_some_iff] at e
    obtain ⟨ds, e1, rfl⟩ := e
    obtain ⟨a, ys, rfl, ha, r2⟩ := r.lst_get
    exact .lst (SqL.of ha) (toPys_ok xs ds ys e1 r2)
  | .rol xs, _, _, e, r => by
    simp only [toPy, Option.map_eq_some_iff] at e
    obtain ⟨ds, e1, rfl⟩ := e
    obtain ⟨a, ys, rfl, ha, r2⟩ := r.rol_get
    exact .lst ha (toPys_ok xs ds ys e1 r2)
  | .ty _, _, _, e, _ => by simp only [toPy] at e; cases e
  | .dct _ _, _, _, e, _ => by simp only [toPy] at e; cases e
  | .ins _ _, _, _, e, _ => by simp only [toPy] at e; cases e
  | .ref _, _, _, e, _ => by simp only [toPy] at e; cases e
  | .adr _, _, _, e, _ => by simp only [toPy] at e; cases e
theorem toPys_ok : ∀ (xs : List VV) (ds : List PyData) (ys : List V), toPys xs = some ds → RVs K G w H xs ys → DpAll K H ys ds
  | [], _, _, e, r => by
    simp only [toPys, Option.some.injEq] at e
    simp only [RVs] at r
    subst e r
    exact .nil
  | x :: xs, _, _, e, r => by
    simp only [toPys, Option.bind_eq_some_iff, Option.map_eq_some_iff] at e
    obtain ⟨d, e1, ds, e2, rfl⟩ := e
    simp only [RVs] at r
    obtain ⟨y, ys, rfl, r1, r2⟩ := r
    exact .cons (toPy_ok x d y e1 r1) (toPys_ok xs ds ys e2 r2)
end
end
/-- ==, != of data -/
def eqO (x y : VV) : Option Bool := (toPy x).bind fun d => (toPy y).bind fun e => if SeqAt.shaped d && SeqAt.shaped e then some (PyData.eqv d e) else none
def eqV (neg : Bool) : V2 := fun x y h => match eqO x y with
  | some b => .ok (.bl (if neg then !b else b)) h
  | none => .bad
theorem eqO_ok {x y : VV} {b : Bool} (h : eqO x y = some b) : ∃ d e, toPy x = some d ∧ toPy y = some e ∧ SeqAt.shaped d = true ∧ SeqAt.shaped e = true ∧ PyData.eqv d e = b := by
  unfold eqO at h
  obtain ⟨d, h1, h⟩ := Option.bind_eq_some_iff.mp h
  obtain ⟨e, h2, h⟩ := Option.bind_eq_some_iff.mp h
  split at h
  · rename_i hs
    obtain ⟨s1, s2⟩ := Bool.and_eq_true_iff.mp hs
    exact ⟨d, e, h1, h2, s1, s2, Option.some.inj h⟩
  · cases h
theorem eqS {K : PySem.W.Frag} {g : Gx} : OpS K g (rEqD K) (eqV false) := by
  intro w h H σ W Q x y vx vy hk rx ry p
  unfold eqV at p
  split at p
  · rename_i b e
    obtain ⟨d1, d2, h1, h2, s1, s2, e3⟩ := eqO_ok e
    subst e3
    exact ⟨d1, d2, toPy_ok _ _ _ h1 rx, toPy_ok _ _ _ h2 ry, s1, s2, post_bl p hk⟩
  · exact p.elim
theorem neS {K : PySem.W.Frag} {g : Gx} : OpS K g (rNeD K) (eqV true) := by
  intro w h H σ W Q x y vx vy hk rx ry p
  unfold eqV at p
  split at p
  · rename_i b e
    obtain ⟨d1, d2, h1, h2, s1, s2, e3⟩ := eqO_ok e
    subst e3
    exact ⟨d1, d2, toPy_ok _ _ _ h1 rx, toPy_ok _ _ _ h2 ry, s1, s2, post_bl p hk⟩
  · exact p.elim
end Mv
set_option Elab.async false
set_option linter.all false
set_option maxRecDepth 100000
/-! Mv, part D: argument lists, displays, subscripts, slices, built-ins called. -/
namespace Mv
open PySem PySem.Spec PyProof.Rows L2

/-! ### argument lists -/
def nilA : MA := fun _ h => .ok [] h
def consA (m : ME) (r : MA) : MA := fun sv h => (m sv h).bind fun x h1 => (r sv h1).bind fun xs h2 => .ok (x :: xs) h2
/-- *e, e a list or a tuple -/
def starA (m : ME) (r : MA) : MA := fun sv h => (m sv h).bind fun x h1 => match x with
  | .tup ys => (r sv h1).bind fun xs h2 => .ok (ys ++ xs) h2
  | .lst ys => (r sv h1).bind fun xs h2 => .ok (ys ++ xs) h2
  | _ => .bad
section
variable {X : Cx} {g : Gx} {W : WX} {e : Expr} {es : List Expr} {m : ME} {ma : MA} {pos : Pos}
theorem ra_nil : RA X g W [] nilA := pa_imp pa_nil fun σ H Q ⟨w, sv, h, rs, hk, p⟩ => Post.here p hk (by simp only [relVs, RVs])
theorem ra_cons (ha : RE X g W e m) (hr : RA X g W es ma) (hs : starEach (e :: es) X.env = (false, eval e X.env) :: starEach es X.env := by rfl) : RA X g W (e :: es) (consA m ma) :=
  pa_imp (pa_cons ha hr hs) fun σ H Q ⟨w, sv, h, rs, hk, p⟩ => by
    refine seqG' rs hk p fun w1 H1 h1 v y e1 rs1 k1 r1 p1 => ?_
    refine seqG' rs1 k1 p1 fun w2 H2 h2 v2 y2 e2 rs2 k2 r2 p2 => ?_
    refine Post.here p2 k2 ?_
    simp only [relVs, RVs]
    exact ⟨y, y2, rfl, RV.mono e2.sees _ _ r1, r2⟩
/-- the items that *e hands on, e a list -/
theorem star_lst {pins : List (Addr × Obj)} {σ : L2.St} {H : Hp} {s : Shared} {a : Addr} {xs : List V} {E : Value → Shared → Prop} {Q : List Value → Shared → Prop} (I : Inv X pins σ H s) (h : SqL X.K H a xs) (hQ : ∀ us s', Inv X pins σ H s' → Vals xs us → Q us s') :
    PySem.W.StarOf (model X.prog X.w) X.A E (.ref a) Q s := by
  obtain ⟨its, r, pl, hz⟩ := I.list h
  obtain ⟨o, n, ho, hc, hdd, hd⟩ := id pl
  have hT : s.TypeIs (.ref a) "list" := ⟨o, ho, hc⟩
  have hl := r.length
  have z : wpAny (model X.prog X.w) X.A (collect (.ref a)) Q E s := by
    refine wpAny_collect_seq a (.inl rfl) ho hc hd (fun h' hk => ?_) (by rw [List.size_toArray]; omega)
    have e : its.toArray.toList = its := by simp
    rw [e]
    exact hQ its _ (I.kept (t' := s.toks) hk) r
  unfold PySem.W.StarOf notIterableAtAll
  exact wpAny_bind (wpAny_specialOf hT PySem.slot_list_iter.lookup (wpAny_pure ⟨rfl, z⟩))
/-- a starred argument's reading -/
def tStar (K : PySem.W.Frag) (te : TE) (tr : TA) : TA := fun σ H Q => te σ H fun x H1 => ∃ a xs, x = .ref a ∧ (SqL K H1 a xs ∨ SqT K H1 a xs) ∧ tr σ H1 fun ys H2 => Q (xs ++ ys) H2
theorem pa_star {te : TE} {tr : TA} (ha : PE X e te) (hr : PA X es tr) : PA X (.Starred e pos :: es) (tStar X.K te tr) := by
  refine ⟨fun p2 pins s σ H Q I h => ?_⟩
  show wpAny _ _ (spliced ((true, (do let v ← eval e X.env; standAt p2; pure v)) :: backTo p2 (starEach es X.env))) _ _ s
  refine PySem.W.ks_spliced (thn (ha.run pins s σ H _ I h) fun u s1 ⟨x, H1, I1, r1, a, xs, ex, hs, q⟩ => ?_)
  subst ex
  cases r1
  have fin : ∀ us s', Inv X pins σ H1 s' → Vals xs us → wpAny (model X.prog X.w) X.A (spliced (backTo p2 (starEach es X.env))) (fun vs s3 => AP X pins σ Q (us ++ vs) s3) X.xe s' := fun us s' I' rv =>
    thn (hr.run p2 pins s' σ H1 _ I' q) fun vs s3 ⟨ys, H3, I3, r3, q3⟩ => ⟨xs ++ ys, H3, I3, rv.append r3, q3⟩
  rcases hs with hs | hs
  · exact star_lst I1 hs fin
  · exact star_tup I1 hs fin
theorem ra_star (ha : RE X g W e m) (hr : RA X g W es ma) : RA X g W (.Starred e pos :: es) (starA m ma) :=
  pa_imp (pa_star ha hr) fun σ H Q ⟨w, sv, h, rs, hk, p⟩ => by
    refine seqG' rs hk p fun w1 H1 h1 v y e1 rs1 k1 r1 p1 => ?_
    split at p1
    · obtain ⟨a, ys', rfl, ha, r3⟩ := RV.tup_get r1
      refine ⟨a, ys', rfl, .inr ha, ?_⟩
      refine seqG' rs1 k1 p1 fun w2 H2 h2 v2 y2 e2 rs2 k2 r2 p2 => ?_
      exact Post.here p2 k2 (RVs.app (RVs.mono e2.sees _ _ r3) r2)
    · obtain ⟨a, ys', rfl, ha, r3⟩ := RV.lst_get r1
      refine ⟨a, ys', rfl, .inl (SqL.of ha), ?_⟩
      refine seqG' rs1 k1 p1 fun w2 H2 h2 v2 y2 e2 rs2 k2 r2 p2 => ?_
      exact Post.here p2 k2 (RVs.app (RVs.mono e2.sees _ _ r3) r2)
    · exact p1.elim

/-! ### displays -/
def tupM (a : MA) : ME := fun sv h => (a sv h).bind fun xs h1 => if fits xs.length then .ok (.tup xs) h1 else .bad
def lstM (a : MA) : ME := fun sv h => (a sv h).bind fun xs h1 => if fits xs.length then .ok (.lst xs) h1 else .bad
theorem re_tup {x1} (ha : RA X g W es ma) : RE X g W (.Tuple es x1 pos) (tupM ma) :=
  pe_imp (pe_tup ha) fun σ H Q ⟨w, sv, h, rs, hk, p⟩ => by
    refine seqG' rs hk p fun w1 H1 h1 v y e1 rs1 k1 r1 p1 => ?_
    split at p1
    · rename_i hf
      exact ⟨by rw [← RVs.length r1]; exact fits_le hf, fun q hq => post_newt p1 k1 r1 hq⟩
    · exact p1.elim
theorem re_lst (ha : RA X g W es ma) : RE X g W (.List es pos) (lstM ma) :=
  pe_imp (pe_lst ha) fun σ H Q ⟨w, sv, h, rs, hk, p⟩ => by
    refine seqG' rs hk p fun w1 H1 h1 v y e1 rs1 k1 r1 p1 => ?_
    split at p1
    · rename_i hf
      exact ⟨by rw [← RVs.length r1]; exact fits_le hf, fun q hq => post_newl p1 k1 r1 hq⟩
    · exact p1.elim
/-- a list of the small heap -/
def newM (a : MA) : ME := fun sv h => (a sv h).bind fun xs h1 => if fits xs.length then .ok (.ref h1.length) (h1 ++ [.lst xs]) else .bad
section
variable {K : PySem.W.Frag} {g : Gx} {w : Wd} {H : Hp} {σ : L2.St} {W : WX} {h : VH} {Q : VK}
def Wd.push (w : Wd) (p : Addr) : Wd := { w with phi := w.phi ++ [some p] }
theorem mut_push {p a : Addr} : (w.push p).mut a → w.mut a ∨ a = p := by
  intro h
  rcases h with h | h | h
  · rcases List.mem_append.mp h with h | h
    · exact .inl (.inl h)
    · simp at h
      exact .inr h
  · exact .inl (.inr (.inl h))
  · exact .inl (.inr (.inr h))
theorem Ext.push (k : Hk K g.adr w h H) {o : HO} {p : Addr} (hp : H p = none) : Ext w H (w.push p) (upd H p o) where
  keep := fun a u q m => by
    have ne := ne_of_none q hp
    exact ⟨by rw [upd_ne ne]; exact q, fun z => (mut_push z).elim m ne⟩
  refs := fun n b hn q => by
    unfold Wd.push at q
    rw [List.getElem?_append_left hn] at q
    exact q
  len := by unfold Wd.push; simp
  P := rfl
  O := rfl
  prot := fun a ha => upd_ne fun e => k.live (.inr ha) (e ▸ hp)
theorem Hk.push (k : Hk K g.adr w h H) {o : HO} {vo : VO} {p : Addr} (hp : H p = none) (r : RO K g.adr (w.push p) (upd H p o) vo p) (hd : dat o = true := by rfl) : Hk K g.adr (w.push p) (h ++ [vo]) (upd H p o) where
  len := by unfold Wd.push; simp [k.len]
  inj := fun n m a hn hm => by
    unfold Wd.push at hn hm
    have key : ∀ (i : Nat), (w.phi ++ [some p])[i]? = some (some a) → (i < w.phi.length ∧ w.phi[i]? = some (some a)) ∨ (i = w.phi.length ∧ a = p) := fun i hi => by
      by_cases c : i < w.phi.length
      · rw [List.getElem?_append_left c] at hi
        exact .inl ⟨c, hi⟩
      · rw [List.getElem?_append_right (Nat.le_of_not_lt c)] at hi
        have : i - w.phi.length = 0 := by
          cases z : i - w.phi.length with
          | zero => rfl
          | succ j => rw [z] at hi; simp at hi
        rw [this] at hi
        simp at hi
        exact .inr ⟨by omega, hi.symm⟩
    have no : ∀ (i : Nat), w.phi[i]? = some (some p) → False := fun i hi => k.live (.inl (List.mem_of_getElem? hi)) hp
    rcases key n hn with ⟨c1, e1⟩ | ⟨c1, e1⟩ <;> rcases key m hm with ⟨c2, e2⟩ | ⟨c2, e2⟩
    · exact k.inj n m a e1 e2
    · subst e2; exact (no _ e1).elim
    · subst e1; exact (no _ e2).elim
    · omega
  obj := fun n a hn => by
    unfold Wd.push at hn
    by_cases c : n < w.phi.length
    · rw [List.getElem?_append_left c] at hn
      obtain ⟨u, h1, h2⟩ := k.obj n a hn
      refine ⟨u, by rw [List.getElem?_append_left (by rw [← k.len]; exact c)]; exact h1, RO.mono (Ext.push k hp).sees u a (fun z q => by rw [upd_ne (ne_of_none q hp)]; exact q) h2⟩
    · rw [List.getElem?_append_right (Nat.le_of_not_lt c)] at hn
      have : n - w.phi.length = 0 := by
        cases z : n - w.phi.length with
        | zero => rfl
        | succ j => rw [z] at hn; simp at hn
      rw [this] at hn
      simp at hn
      subst hn
      have en : n = h.length := by rw [← k.len]; omega
      exact ⟨vo, by rw [en]; simp, r⟩
  has := fun n u hn hd => by
    unfold Wd.push
    by_cases c : n < h.length
    · rw [List.getElem?_append_left c] at hn
      obtain ⟨a, ha⟩ := k.has n u hn hd
      exact ⟨a, by rw [List.getElem?_append_left (by rw [k.len]; exact c)]; exact ha⟩
    · have c2 := (List.getElem?_eq_some_iff.mp hn).1
      rw [List.length_append, List.length_singleton] at c2
      have en : n = w.phi.length := by rw [k.len]; omega
      exact ⟨p, by rw [en]; simp⟩
  prot := fun a ha => by
    obtain ⟨h1, h2⟩ := k.prot a ha
    have ne : a ≠ p := fun e => h1 (by rw [e]; exact hp)
    refine ⟨by rw [upd_ne ne]; exact h1, ?_⟩
    unfold Wd.push
    intro z
    rcases List.mem_append.mp z with z | z
    · exact h2 z
    · simp at z; exact ne z
  own := k.own
  ownI := k.ownI
  spc := k.spc.upd hd fun a ne => ⟨fun z => List.mem_append_left _ z, fun z => (mut_push z).elim id fun e => (ne e).elim⟩
end
theorem re_new (ha : RA X g W es ma) : RE X g W (.List es pos) (newM ma) :=
  pe_imp (pe_lst ha) fun σ H Q ⟨w, sv, h, rs, hk, p⟩ => by
    refine seqG' rs hk p fun w1 H1 h1 v y e1 rs1 k1 r1 p1 => ?_
    split at p1
    · rename_i hf
      refine ⟨by rw [← RVs.length r1]; exact fits_le hf, fun q hq => ?_⟩
      have ex := Ext.push (o := .lst y) k1 hq
      refine p1 _ _ _ ex (Hk.push k1 hq ⟨y, upd_same, RVs.mono ex.sees _ _ r1⟩) ?_
      simp only [relV, RV]
      refine ⟨q, rfl, by unfold Wd.push; simp [k1.len], fun b hb => ?_⟩
      unfold Wd.push at hb
      rw [← k1.len] at hb
      simp at hb
      exact hb.symm
    · exact p1.elim

/-! ### a[b] -/
theorem RVs.atI {K : PySem.W.Frag} {G : Nat → Addr} {w : Wd} {H : Hp} {xs : List VV} {ys : List V} (r : RVs K G w H xs ys) {i : Int} {v : VV} (h : atI xs i = some v) : ∃ y, L2.atI ys i = some y ∧ RV K G w H v y := by
  unfold L2.atI at h ⊢
  rw [← r.length]
  cases e : ixN xs.length i with
  | none => rw [e] at h; cases h
  | some j =>
    rw [e] at h
    exact r.get j v h
def ixV : V2 := fun x y h => match y with
  | .int i => (match x with
    | .tup xs => (match atI xs i with | some v => .ok v h | none => .bad)
    | .lst xs => (match atI xs i with | some v => .ok v h | none => .bad)
    | .rol xs => (match atI xs i with | some v => .ok v h | none => .bad)
    | .str z => if fits z.length then (match atI z.cps.toList i with | some c => .ok (.str ⟨#[c]⟩) h | none => .bad) else .bad
    | .ref n => (match h[n]? with | some (.lst xs) => (match atI xs i with | some v => .ok v h | none => .bad) | _ => .bad)
    | _ => .bad)
  | _ => .bad
theorem ref_get {K : PySem.W.Frag} {g : Gx} {w : Wd} {H : Hp} {h : VH} {n : Nat} {y : V} {xs : List VV} (hk : Hk K g.adr w h H) (r : RV K g.adr w H (.ref n) y) (e : h[n]? = some (.lst xs)) : ∃ a ys, y = .ref a ∧ w.phi[n]? = some (some a) ∧ H a = some (.lst ys) ∧ RVs K g.adr w H xs ys := by
  simp only [RV] at r
  obtain ⟨a, rfl, h1, h2⟩ := r
  obtain ⟨b, hb⟩ := hk.has n _ e (by intro z; cases z)
  have eb := h2 b hb
  subst eb
  obtain ⟨o, h3, h4⟩ := hk.obj n b hb
  rw [e] at h3
  cases h3
  obtain ⟨ys, h5, h6⟩ := h4
  exact ⟨b, ys, rfl, hb, h5, h6⟩
theorem ixS {K : PySem.W.Frag} {g : Gx} : OpS K g (rIx K) ixV := by
  intro w h H σ W Q x y vx vy hk rx ry p
  unfold ixV at p
  split at p
  · split at p
    · split at p
      · rename_i v e
        obtain ⟨a, ys, rfl, ha, r1⟩ := rx.tup_get
        obtain ⟨z, e1, r2⟩ := r1.atI e
        exact .inr (.inl ⟨a, ys, _, z, rfl, ry.int_eq, ha, e1, Post.here p hk r2⟩)
      · exact p.elim
    · split at p
      · rename_i v e
        obtain ⟨a, ys, rfl, ha, r1⟩ := rx.lst_get
        obtain ⟨z, e1, r2⟩ := r1.atI e
        exact .inl ⟨a, ys, _, z, rfl, ry.int_eq, SqL.of ha, e1, Post.here p hk r2⟩
      · exact p.elim
    · split at p
      · rename_i v e
        obtain ⟨a, ys, rfl, ha, r1⟩ := rx.rol_get
        obtain ⟨z, e1, r2⟩ := r1.atI e
        exact .inl ⟨a, ys, _, z, rfl, ry.int_eq, ha, e1, Post.here p hk r2⟩
      · exact p.elim
    · split at p
      · split at p
        · rename_i hf _ c e
          exact .inr (.inr ⟨_, _, c, rx.str_eq, ry.int_eq, fits_le hf, e, post_str p hk⟩)
        · exact p.elim
      · exact p.elim
    · split at p
      · rename_i xs e0
        split at p
        · rename_i v e
          obtain ⟨a, ys, rfl, _, ha, r1⟩ := ref_get hk rx e0
          obtain ⟨z, e1, r2⟩ := r1.atI e
          exact .inl ⟨a, ys, _, z, rfl, ry.int_eq, SqL.of ha, e1, Post.here p hk r2⟩
        · exact p.elim
      · exact p.elim
    · exact p.elim
  · exact p.elim
theorem re_ix {a b : Expr} {ma mb : ME} (ha : RE X g W a ma) (hb : RE X g W b mb) (hs : PlainIx b := by intro _ _; rfl) : RE X g W (.Subscript a b pos) (opM ixV ma mb) :=
  pe_imp (pe_ix ix_seq ha hb hs) fun σ H Q t => op_imp ixS t

/-! ### slices -/
abbrev MO := Sv → VH → Out (Option Int)
def relO : Rel (Option Int) (Option Int) := fun _ _ a b => a = b
abbrev RO' (X : Cx) (g : Gx) (W : WX) (e : Option Expr) (m : MO) : Prop := PO X e (tG X.K g relO m W)
theorem po_imp {e : Option Expr} {t t' : TO} (h : PO X e t) (i : ∀ σ H Q, t' σ H Q → t σ H Q) : PO X e t' := ⟨fun pins s σ H Q I q => h.run pins s σ H Q I (i σ H Q q)⟩
def noneO : MO := fun _ h => .ok none h
def someO (m : ME) : MO := fun sv h => (m sv h).bind fun x h1 => match x with
  | .int i => .ok (some i) h1
  | _ => .bad
theorem ro_none : RO' X g W none noneO := po_imp po_none fun σ H Q ⟨w, sv, h, rs, hk, p⟩ => Post.here p hk rfl
theorem ro_some (ha : RE X g W e m) : RO' X g W (some e) (someO m) := po_imp (po_some ha) fun σ H Q ⟨w, sv, h, rs, hk, p⟩ => by
  refine seqG' rs hk p fun w1 H1 h1 v y e1 rs1 k1 r1 p1 => ?_
  split at p1
  · exact ⟨_, RV.int_eq r1, Post.here p1 k1 rfl⟩
  · exact p1.elim
def cutG {α : Type} (xs : List α) (lo hi : Option Int) : List α := (xs.drop (HT.sIx xs.length 0 lo)).take (HT.sIx xs.length xs.length hi - HT.sIx xs.length 0 lo)
theorem RVs.cut {K : PySem.W.Frag} {G : Nat → Addr} {w : Wd} {H : Hp} {xs : List VV} {ys : List V} (r : RVs K G w H xs ys) (lo hi : Option Int) : RVs K G w H (cutG xs lo hi) (cutV ys lo hi) := by
  unfold cutG cutV
  rw [← r.length]
  exact (r.drop _).take _
def sliceV (x : VV) (lo hi : Option Int) (h : VH) : Out VV := match x with
  | .tup xs => .ok (.tup (cutG xs lo hi)) h
  | .lst xs => .ok (.lst (cutG xs lo hi)) h
  | .rol xs => .ok (.lst (cutG xs lo hi)) h
  | _ => .bad
def sliceM (a : ME) (lo hi : MO) : ME := fun sv h => (a sv h).bind fun x h1 => (lo sv h1).bind fun l h2 => (hi sv h2).bind fun u h3 => sliceV x l u h3
theorem re_slice {lo hi : Option Expr} {ml mh : MO} {p2 : Pos} (he : RE X g W e m) (hl : RO' X g W lo ml) (hu : RO' X g W hi mh) : RE X g W (.Subscript e (.Slice lo hi none p2) pos) (sliceM m ml mh) :=
  pe_imp (pe_slice (sl_list.or sl_tupA) he hl hu) fun σ H Q ⟨w, sv, h, rs, hk, p⟩ => by
    refine seqG' rs hk p fun w1 H1 h1 v y e1 rs1 k1 r1 p1 => ?_
    refine seqG' rs1 k1 p1 fun w2 H2 h2 l l' e2 rs2 k2 r2 p2 => ?_
    refine seqG' rs2 k2 p2 fun w3 H3 h3 u u' e3 rs3 k3 r3 p3 => ?_
    have el : l = l' := r2
    have eu : u = u' := r3
    subst el eu
    have rv := RV.mono (e2.trans e3).sees _ _ r1
    unfold sliceV at p3
    split at p3
    · rename_i xs
      have rv0 := rv
      obtain ⟨a, ys, rfl, ha, r4⟩ := rv.tup_get
      refine .inr ⟨a, ys, rfl, ha, fun c => ?_, fun _ q hq => post_newt p3 k3 (r4.cut l u) hq⟩
      have hc : cutG xs l u = xs := by
        unfold cutG
        rw [r4.length, c.1, c.2, List.drop_zero, Nat.sub_zero, ← r4.length, List.take_length]
      rw [hc] at p3
      exact Post.here p3 k3 rv0
    · obtain ⟨a, ys, rfl, ha, r4⟩ := rv.lst_get
      exact .inl ⟨a, ys, rfl, SqL.of ha, fun q hq => post_newl p3 k3 (r4.cut l u) hq⟩
    · obtain ⟨a, ys, rfl, ha, r4⟩ := rv.rol_get
      exact .inl ⟨a, ys, rfl, ha, fun q hq => post_newl p3 k3 (r4.cut l u) hq⟩
    · exact p3.elim

/-! ### built-ins, called by their names -/
abbrev VF := List VV → VH → Out VV
def callM (f : VF) (a : MA) : ME := fun sv h => (a sv h).bind f
def CallS (K : PySem.W.Frag) (g : Gx) (r : List V → Hp → VK → Prop) (f : VF) : Prop := ∀ (w : Wd) (h : VH) (H : Hp) (σ : L2.St) (W : WX) (Q : VK) (xs : List VV) (vs : List V), Hk K g.adr w h H → RVs K g.adr w H xs vs → Post K g (relV K g) w H σ Q W (f xs h) → r vs H Q
theorem call_imp {r : List V → Hp → VK → Prop} {f : VF} (hf : CallS X.K g r f) {σ : L2.St} {H : Hp} {Q : VK} (t : tG X.K g (relV X.K g) (callM f ma) W σ H Q) : tCB r (tG X.K g (relVs X.K g) ma W) σ H Q := by
  obtain ⟨w, sv, h, rs, hk, p⟩ := t
  refine seqG' rs hk p fun w1 H1 h1 v y e1 rs1 k1 r1 p1 => ?_
  exact hf w1 h1 H1 σ W Q v y k1 r1 p1
theorem re_callB {x : Str} {p : Pos} {id : String} {r : List V → Hp → VK → Prop} {f : VF} (hc : CallR X (.builtin id) r) (hf : CallS X.K g r f) (hg : Gl X x) (hm : X.mg x = none) (hv : bootBuiltins x = some (.builtin id)) (ha : RA X g W (e :: es) ma) (hn : x ≠ "__name__" := by decide)
    (hdb : (x == ("__debug__" : Str)) = false := by decide) (he : starEach (e :: es) X.env = (false, eval e X.env) :: starEach es X.env := by rfl) (hpl : (backTo pos (starEach es X.env)).any (·.1) = false := by rfl) : RE X g W (.Call (.Name x p) (e :: es) [] pos) (callM f ma) :=
  pe_imp (pe_callB hc hg hm hv ha hn hdb he hpl) fun σ H Q t => call_imp hf t
theorem re_callTy {x : Str} {p : Pos} {T : String} {r : List V → Hp → VK → Prop} {f : VF} (hc : CallR X (.type T) r) (hf : CallS X.K g r f) (hg : Gl X x) (hm : X.mg x = none) (hv : bootBuiltins x = some (.type T)) (ha : RA X g W (e :: es) ma) (hn : x ≠ "__name__" := by decide)
    (hdb : (x == ("__debug__" : Str)) = false := by decide) (he : starEach (e :: es) X.env = (false, eval e X.env) :: starEach es X.env := by rfl) (hpl : (backTo pos (starEach es X.env)).any (·.1) = false := by rfl) : RE X g W (.Call (.Name x p) (e :: es) [] pos) (callM f ma) :=
  pe_imp (pe_callTy hc hg hm hv ha hn hdb he hpl) fun σ H Q t => call_imp hf t
theorem re_callBfun {x : Str} {p : Pos} {id : String} {r : List V → Hp → VK → Prop} {f : VF} (hc : CallR X (.builtin id) r) (hf : CallS X.K g r f) (hg : Gl X x) (hm : X.mg x = some (.builtin id)) (ha : RA X g W (e :: es) ma)
    (hdb : (x == ("__debug__" : Str)) = false := by decide) (he : starEach (e :: es) X.env = (false, eval e X.env) :: starEach es X.env := by rfl) (hpl : (backTo pos (starEach es X.env)).any (·.1) = false := by rfl) : RE X g W (.Call (.Name x p) (e :: es) [] pos) (callM f ma) :=
  pe_imp (pe_callBfun hc hg hm ha hdb he hpl) fun σ H Q t => call_imp hf t
end
section
variable {K : PySem.W.Frag} {g : Gx} {w : Wd} {H : Hp} {h : VH}
theorem RVs.one {G : Nat → Addr} {x : VV} {vs : List V} (r : RVs K G w H [x] vs) : ∃ y, vs = [y] ∧ RV K G w H x y := by
  simp only [RVs] at r
  obtain ⟨y, t, rfl, r1, rfl⟩ := r
  exact ⟨y, rfl, r1⟩
theorem RVs.two {G : Nat → Addr} {x x' : VV} {vs : List V} (r : RVs K G w H [x, x'] vs) : ∃ y y', vs = [y, y'] ∧ RV K G w H x y ∧ RV K G w H x' y' := by
  simp only [RVs] at r
  obtain ⟨y, t, rfl, r1, y', t', rfl, r2, rfl⟩ := r
  exact ⟨y, y', rfl, r1, r2⟩
/-- len -/
def lenF : VF := fun xs h => match xs with
  | [.tup ys] => .ok (.int ys.length) h
  | [.lst ys] => .ok (.int ys.length) h
  | [.rol ys] => .ok (.int ys.length) h
  | [.str z] => if fits z.length then .ok (.int z.length) h else .bad
  | [.ref n] => (match h[n]? with | some (.lst ys) => .ok (.int ys.length) h | _ => .bad)
  | _ => .bad
theorem lenS : CallS K g (fun xs H Q => ∃ x n, xs = [x] ∧ LenV K x H n ∧ Q (.int n) H) lenF := by
  intro w h H σ W Q xs vs hk r p
  unfold lenF at p
  split at p
  · obtain ⟨y, rfl, r1⟩ := r.one
    obtain ⟨a, ys', rfl, ha, r2⟩ := r1.tup_get
    exact ⟨_, _, rfl, .inr ⟨ys', ha, rfl⟩, by rw [← r2.length]; exact post_int p hk⟩
  · obtain ⟨y, rfl, r1⟩ := r.one
    obtain ⟨a, ys', rfl, ha, r2⟩ := r1.lst_get
    exact ⟨_, _, rfl, .inl ⟨ys', SqL.of ha, rfl⟩, by rw [← r2.length]; exact post_int p hk⟩
  · obtain ⟨y, rfl, r1⟩ := r.one
    obtain ⟨a, ys', rfl, ha, r2⟩ := r1.rol_get
    exact ⟨_, _, rfl, .inl ⟨ys', ha, rfl⟩, by rw [← r2.length]; exact post_int p hk⟩
  · split at p
    · rename_i hf
      obtain ⟨y, rfl, r1⟩ := r.one
      rw [r1.str_eq]
      exact ⟨_, _, rfl, ⟨fits_le hf, rfl⟩, post_int p hk⟩
    · exact p.elim
  · split at p
    · rename_i ys e
      obtain ⟨y, rfl, r1⟩ := r.one
      obtain ⟨a, ys', rfl, _, ha, r2⟩ := ref_get hk r1 e
      exact ⟨_, _, rfl, .inl ⟨ys', SqL.of ha, rfl⟩, by rw [← r2.length]; exact post_int p hk⟩
    · exact p.elim
  · exact p.elim
/-- int, abs, max, min, gcd of ints -/
def intF : VF := fun xs h => match xs with
  | [.int i] => .ok (.int i) h
  | [.bl k] => .ok (.int (if k then 1 else 0)) h
  | _ => .bad
theorem intFS : CallS K g (fun xs H Q => (∃ i, xs = [.int i] ∧ Q (.int i) H) ∨ ∃ k, xs = [.bl k] ∧ Q (.int (if k then 1 else 0)) H) intF := by
  intro w h H σ W Q xs vs hk r p
  unfold intF at p
  split at p
  · obtain ⟨y, rfl, r1⟩ := r.one
    rw [r1.int_eq]
    exact .inl ⟨_, rfl, post_int p hk⟩
  · obtain ⟨y, rfl, r1⟩ := r.one
    rw [r1.bl_eq]
    exact .inr ⟨_, rfl, post_int p hk⟩
  · exact p.elim
def absF : VF := fun xs h => match xs with
  | [.int i] => .ok (.int (if i < 0 then -i else i)) h
  | _ => .bad
theorem absS : CallS K g (fun xs H Q => ∃ i, xs = [.int i] ∧ Q (.int (if i < 0 then -i else i)) H) absF := by
  intro w h H σ W Q xs vs hk r p
  unfold absF at p
  split at p
  · obtain ⟨y, rfl, r1⟩ := r.one
    rw [r1.int_eq]
    exact ⟨_, rfl, post_int p hk⟩
  · exact p.elim
def int2F (f : Int → Int → Int) : VF := fun xs h => match xs with
  | [.int i, .int j] => .ok (.int (f i j)) h
  | _ => .bad
theorem int2S {f : Int → Int → Int} : CallS K g (fun xs H Q => ∃ i j, xs = [.int i, .int j] ∧ Q (.int (f i j)) H) (int2F f) := by
  intro w h H σ W Q xs vs hk r p
  unfold int2F at p
  split at p
  · obtain ⟨y, y', rfl, r1, r2⟩ := r.two
    rw [r1.int_eq, r2.int_eq]
    exact ⟨_, _, rfl, post_int p hk⟩
  · exact p.elim
def maxF : VF := int2F fun i j => if j > i then j else i
def minF : VF := int2F fun i j => if j < i then j else i
def gcdF : VF := int2F fun i j => ((Nat.gcd i.natAbs j.natAbs : Nat) : Int)
/-- all, any of bools -/
def allBl : List VV → Option (List Bool)
  | [] => some []
  | .bl b :: r => (allBl r).map fun bs => b :: bs
  | _ => none
theorem allBl_ok : ∀ {xs : List VV} {bs : List Bool}, allBl xs = some bs → xs = bs.map VV.bl
  | [], bs, h => by simp only [allBl, Option.some.injEq] at h; subst h; rfl
  | .bl b :: r, bs, h => by
    simp only [allBl, Option.map_eq_some_iff] at h
    obtain ⟨cs, h1, rfl⟩ := h
    rw [allBl_ok h1]
    rfl
  | .non :: _, _, h => by simp only [allBl] at h; cases h
  | .int _ :: _, _, h => by simp only [allBl] at h; cases h
  | .str _ :: _, _, h => by simp only [allBl] at h; cases h
  | .ty _ :: _, _, h => by simp only [allBl] at h; cases h
  | .tup _ :: _, _, h => by simp only [allBl] at h; cases h
  | .lst _ :: _, _, h => by simp only [allBl] at h; cases h
  | .rol _ :: _, _, h => by simp only [allBl] at h; cases h
  | .dct _ _ :: _, _, h => by simp only [allBl] at h; cases h
  | .ins _ _ :: _, _, h => by simp only [allBl] at h; cases h
  | .ref _ :: _, _, h => by simp only [allBl] at h; cases h
  | .adr _ :: _, _, h => by simp only [allBl] at h; cases h
def allIt : List VV → Option (List Int)
  | [] => some []
  | .int b :: r => (allIt r).map fun bs => b :: bs
  | _ => none
theorem allIt_ok : ∀ {xs : List VV} {bs : List Int}, allIt xs = some bs → xs = bs.map VV.int
  | [], bs, h => by simp only [allIt, Option.some.injEq] at h; subst h; rfl
  | .int b :: r, bs, h => by
    simp only [allIt, Option.map_eq_some_iff] at h
    obtain ⟨cs, h1, rfl⟩ := h
    rw [allIt_ok h1]
    rfl
  | .non :: _, _, h => by simp only [allIt] at h; cases h
  | .bl _ :: _, _, h => by simp only [allIt] at h; cases h
  | .str _ :: _, _, h => by simp only [allIt] at h; cases h
  | .ty _ :: _, _, h => by simp only [allIt] at h; cases h
  | .tup _ :: _, _, h => by simp only [allIt] at h; cases h
  | .lst _ :: _, _, h => by simp only [allIt] at h; cases h
  | .rol _ :: _, _, h => by simp only [allIt] at h; cases h
  | .dct _ _ :: _, _, h => by simp only [allIt] at h; cases h
  | .ins _ _ :: _, _, h => by simp only [allIt] at h; cases h
  | .ref _ :: _, _, h => by simp only [allIt] at h; cases h
  | .adr _ :: _, _, h => by simp only [allIt] at h; cases h
def allF : VF := fun xs h => match xs with
  | [.lst ys] => (match allBl ys with | some bs => .ok (.bl (bs.all id)) h | none => .bad)
  | _ => .bad
def anyF : VF := fun xs h => match xs with
  | [.lst ys] => (match allBl ys with | some bs => .ok (.bl (bs.any id)) h | none => .bad)
  | _ => .bad
def sumF : VF := fun xs h => match xs with
  | [.lst ys] => (match allIt ys with | some bs => .ok (.int bs.sum) h | none => .bad)
  | _ => .bad
theorem allS : CallS K g (rAll K) allF := by
  intro w h H σ W Q xs vs hk r p
  unfold allF at p
  split at p
  · split at p
    · rename_i bs e
      obtain ⟨y, rfl, r1⟩ := r.one
      obtain ⟨a, ys', rfl, ha, r2⟩ := r1.lst_get
      rw [allBl_ok e] at r2
      rw [r2.bls] at ha
      exact ⟨a, bs, rfl, SqL.of ha, post_bl p hk⟩
    · exact p.elim
  · exact p.elim
theorem anyS : CallS K g (rAny K) anyF := by
  intro w h H σ W Q xs vs hk r p
  unfold anyF at p
  split at p
  · split at p
    · rename_i bs e
      obtain ⟨y, rfl, r1⟩ := r.one
      obtain ⟨a, ys', rfl, ha, r2⟩ := r1.lst_get
      rw [allBl_ok e] at r2
      rw [r2.bls] at ha
      exact ⟨a, bs, rfl, SqL.of ha, post_bl p hk⟩
    · exact p.elim
  · exact p.elim
theorem sumS : CallS K g (rSum K) sumF := by
  intro w h H σ W Q xs vs hk r p
  unfold sumF at p
  split at p
  · split at p
    · rename_i bs e
      obtain ⟨y, rfl, r1⟩ := r.one
      obtain ⟨a, ys', rfl, ha, r2⟩ := r1.lst_get
      rw [allIt_ok e] at r2
      rw [r2.ints] at ha
      exact ⟨a, bs, rfl, SqL.of ha, post_int p hk⟩
    · exact p.elim
  · exact p.elim
/-- list(..), tuple(..) of a list, a tuple -/
def listF : VF := fun xs h => match xs with
  | [.tup ys] => .ok (.lst ys) h
  | [.lst ys] => .ok (.lst ys) h
  | [.rol ys] => .ok (.lst ys) h
  | _ => .bad
theorem listS : CallS K g (fun xs H Q => ∃ p ys, xs = [.ref p] ∧ (SqL K H p ys ∨ SqT K H p ys) ∧ ∀ l, H l = none → Q (.ref l) (upd H l (.lst ys))) listF := by
  intro w h H σ W Q xs vs hk r p
  unfold listF at p
  split at p
  · obtain ⟨y, rfl, r1⟩ := r.one
    obtain ⟨a, ys', rfl, ha, r2⟩ := r1.tup_get
    exact ⟨a, ys', rfl, .inr ha, fun q hq => post_newl p hk r2 hq⟩
  · obtain ⟨y, rfl, r1⟩ := r.one
    obtain ⟨a, ys', rfl, ha, r2⟩ := r1.lst_get
    exact ⟨a, ys', rfl, .inl (SqL.of ha), fun q hq => post_newl p hk r2 hq⟩
  · obtain ⟨y, rfl, r1⟩ := r.one
    obtain ⟨a, ys', rfl, ha, r2⟩ := r1.rol_get
    exact ⟨a, ys', rfl, .inl ha, fun q hq => post_newl p hk r2 hq⟩
  · exact p.elim
def tupleF : VF := fun xs h => match xs with
  | [.tup ys] => .ok (.tup ys) h
  | [.lst ys] => .ok (.tup ys) h
  | [.rol ys] => .ok (.tup ys) h
  | _ => .bad
theorem tupleS : CallS K g (fun xs H Q => ∃ p ys, xs = [.ref p] ∧ ((SqL K H p ys ∧ ∀ l, H l = none → Q (.ref l) (upd H l (.tup ys))) ∨ (SqT K H p ys ∧ Q (.ref p) H))) tupleF := by
  intro w h H σ W Q xs vs hk r p
  unfold tupleF at p
  split at p
  · obtain ⟨y, rfl, r1⟩ := r.one
    have r0 := r1
    obtain ⟨a, ys', rfl, ha, r2⟩ := r1.tup_get
    exact ⟨a, ys', rfl, .inr ⟨ha, Post.here p hk r0⟩⟩
  · obtain ⟨y, rfl, r1⟩ := r.one
    obtain ⟨a, ys', rfl, ha, r2⟩ := r1.lst_get
    exact ⟨a, ys', rfl, .inl ⟨SqL.of ha, fun q hq => post_newt p hk r2 hq⟩⟩
  · obtain ⟨y, rfl, r1⟩ := r.one
    obtain ⟨a, ys', rfl, ha, r2⟩ := r1.rol_get
    exact ⟨a, ys', rfl, .inl ⟨ha, fun q hq => post_newt p hk r2 hq⟩⟩
  · exact p.elim
/-- isinstance with a built-in class -/
def tyOf (h : VH) : VV → Option BTy
  | .non => some .none
  | .bl _ => some .bool
  | .int _ => some .int
  | .str _ => some .str
  | .tup _ => some .tuple
  | .lst _ => some .list
  | .dct _ _ => some .dict
  | .ref n => (match h[n]? with | some (.lst _) => some .list | _ => none)
  | _ => none
def subTy : BTy → BTy → Bool
  | .bool, .bool => true | .bool, .int => true | .int, .int => true | .str, .str => true | .tuple, .tuple => true | .list, .list => true | .dict, .dict => true | .set, .set => true | .none, .none => true
  | _, _ => false
theorem kit_sub {K : PySem.W.Frag} (a b : BTy) : PySem.W.kitOne K (.type a.name) (.type b.name) = some (subTy a b) := by
  cases a <;> cases b <;> exact kit_ty (by decide +kernel)
theorem tyOf_ok {x : VV} {t : BTy} {y : V} (hk : Hk K g.adr w h H) (r : RV K g.adr w H x y) (e : tyOf h x = some t) : TyX K H y (.type t.name) := by
  cases x with
  | non => simp only [tyOf, Option.some.injEq] at e; simp only [RV] at r; subst e r; exact .base .non
  | bl b => simp only [tyOf, Option.some.injEq] at e; simp only [RV] at r; subst e r; exact .base (.bl b)
  | int b => simp only [tyOf, Option.some.injEq] at e; simp only [RV] at r; subst e r; exact .base (.int b)
  | str b => simp only [tyOf, Option.some.injEq] at e; simp only [RV] at r; subst e r; exact .base (.str b)
  | tup xs =>
    simp only [tyOf, Option.some.injEq] at e
    simp only [RV] at r
    obtain ⟨a, ys, rfl, h1, _⟩ := r
    subst e
    rcases h1 with h1 | ⟨o, its, n, h1, h2, _⟩
    · exact .base (.tup h1.1)
    · exact .kTuple h1 h2
  | lst xs =>
    simp only [tyOf, Option.some.injEq] at e
    obtain ⟨a, ys, rfl, h1, _⟩ := r.lst_get
    subst e
    exact .base (.lst h1)
  | dct ks vs =>
    simp only [tyOf, Option.some.injEq] at e
    simp only [RV] at r
    obtain ⟨a, kvs, rfl, h1, _⟩ := r
    subst e
    exact .base (.dK h1.1)
  | ref n =>
    simp only [tyOf] at e
    split at e
    · rename_i xs e1
      simp only [Option.some.injEq] at e
      subst e
      obtain ⟨a, ys, rfl, _, h2, _⟩ := ref_get hk r e1
      exact .base (.lst h2)
    · cases e
  | _ => simp only [tyOf] at e; cases e
def isiF : VF := fun xs h => match xs with
  | [x, .ty t] => (match tyOf h x with | some u => .ok (.bl (subTy u t)) h | none => .bad)
  | _ => .bad
theorem isiS : CallS K g (rIsi K) isiF := by
  intro w h H σ W Q xs vs hk r p
  unfold isiF at p
  split at p
  · split at p
    · rename_i u e
      obtain ⟨y, y', rfl, r1, r2⟩ := r.two
      simp only [RV] at r2
      subst r2
      exact ⟨y, _, _, _, _, rfl, .ty _, tyOf_ok hk r1 e, kit_sub _ _, post_bl p hk⟩
    · exact p.elim
  · exact p.elim
/-- sorted of ints -/
def insI (x : Int) : List Int → List Int
  | [] => [x]
  | y :: r => if x ≤ y then x :: y :: r else y :: insI x r
def sortI : List Int → List Int
  | [] => []
  | x :: r => insI x (sortI r)
theorem insI_perm (x : Int) : ∀ l : List Int, (insI x l).Perm (x :: l)
  | [] => List.Perm.refl _
  | y :: r => by
    unfold insI
    split
    · exact List.Perm.refl _
    · exact ((insI_perm x r).cons y).trans (List.Perm.swap x y r)
theorem sortI_perm : ∀ l : List Int, (sortI l).Perm l
  | [] => List.Perm.refl _
  | x :: r => (insI_perm x _).trans ((sortI_perm r).cons x)
theorem insI_sorted (x : Int) : ∀ l : List Int, l.Pairwise (· ≤ ·) → (insI x l).Pairwise (· ≤ ·)
  | [], _ => List.pairwise_singleton _ _
  | y :: r, h => by
    unfold insI
    obtain ⟨h1, h2⟩ := List.pairwise_cons.mp h
    split
    · rename_i c
      refine List.pairwise_cons.mpr ⟨fun z hz => ?_, h⟩
      rcases List.mem_cons.mp hz with e | hz
      · rw [e]; exact c
      · exact Int.le_trans c (h1 z hz)
    · rename_i c
      refine List.pairwise_cons.mpr ⟨fun z hz => ?_, insI_sorted x r h2⟩
      rcases List.mem_cons.mp ((insI_perm x r).mem_iff.mp hz) with e | hz
      · rw [e]; omega
      · exact h1 z hz
theorem sortI_sorted : ∀ l : List Int, (sortI l).Pairwise (· ≤ ·)
  | [] => List.Pairwise.nil
  | x :: r => insI_sorted x _ (sortI_sorted r)
theorem sorted_unique : ∀ {l m : List Int}, l.Perm m → l.Pairwise (· ≤ ·) → m.Pairwise (· ≤ ·) → l = m
  | [], m, p, _, _ => by
    have := p.length_eq
    exact (List.length_eq_zero_iff.mp this.symm).symm
  | x :: l, m, p, h1, h2 => by
    cases m with
    | nil =>
      have := p.length_eq
      simp at this
    | cons y m =>
      obtain ⟨a1, a2⟩ := List.pairwise_cons.mp h1
      obtain ⟨b1, b2⟩ := List.pairwise_cons.mp h2
      have e : x = y := by
        have hx : x ∈ y :: m := p.mem_iff.mp List.mem_cons_self
        have hy : y ∈ x :: l := p.mem_iff.mpr List.mem_cons_self
        have c1 : y ≤ x := by
          rcases List.mem_cons.mp hx with e | hx
          · omega
          · exact b1 x hx
        have c2 : x ≤ y := by
          rcases List.mem_cons.mp hy with e | hy
          · omega
          · exact a1 y hy
        omega
      subst e
      rw [sorted_unique (List.perm_cons x |>.mp p) a2 b2]
def sortedF : VF := fun xs h => match xs with
  | [.lst ys] => (match allIt ys with | some ns => .ok (.lst ((sortI ns).map VV.int)) h | none => .bad)
  | _ => .bad
theorem sortedS : CallS K g (rSortedI K) sortedF := by
  intro w h H σ W Q xs vs hk r p
  unfold sortedF at p
  split at p
  · split at p
    · rename_i ns e
      obtain ⟨y, rfl, r1⟩ := r.one
      obtain ⟨a, ys', rfl, ha, r2⟩ := r1.lst_get
      rw [allIt_ok e] at r2
      rw [r2.ints] at ha
      refine ⟨a, ns, rfl, SqL.of ha, fun ns' q hp hs hq => ?_⟩
      have e2 : ns' = sortI ns := sorted_unique (hp.trans (sortI_perm ns).symm) hs (sortI_sorted ns)
      rw [e2]
      exact post_newl p hk (RVs.of_ints _) hq
    · exact p.elim
  · exact p.elim
end
end Mv
set_option Elab.async false
set_option linter.all false
set_option maxRecDepth 100000
/-! Mv, part E: what is walked, targets, list comprehensions. -/
namespace Mv
open PySem PySem.Spec PyProof.Rows L2

/-! ### what is walked -/
/-- the items that J yields, seen from (w, H) on -/
structure ItOk (K : PySem.W.Frag) (g : Gx) (w : Wd) (H : Hp) (items : List VV) (J : It) : Prop where
  step : ∀ (w1 : Wd) (h1 : VH) (H1 : Hp) (i : Nat) (v : VV), Sees w H w1 H1 → Hk K g.adr w1 h1 H1 → items[i]? = some v → J.go i H1 ∧ ∀ x H2, J.yld i H1 x H2 → Ext w1 H1 w1 H2 ∧ Hk K g.adr w1 h1 H2 ∧ RV K g.adr w1 H2 v x
  stop : ∀ (w1 : Wd) (H1 : Hp), Sees w H w1 H1 → J.stop items.length H1
def relI (K : PySem.W.Frag) (g : Gx) : Rel (List VV) It := fun w H items J => ItOk K g w H items J
abbrev MI := Sv → VH → Out (List VV)
abbrev RI (X : Cx) (g : Gx) (W : WX) (tg iter : Expr) (m : MI) : Prop := PI X tg iter (tG X.K g (relI X.K g) m W)
theorem pi_imp {X : Cx} {tg iter : Expr} {t t' : TI} (h : PI X tg iter t) (i : ∀ σ H R, t' σ H R → t σ H R) : PI X tg iter t' := ⟨fun pins s σ H R I q => h.run pins s σ H R I (i σ H R q)⟩
theorem Sees.refl (w : Wd) (H : Hp) : Sees w H w H := ⟨fun _ _ h m => ⟨h, m⟩, fun _ _ _ h => h, Nat.le_refl _⟩
theorem Sees.trans {w w1 w2 : Wd} {H H1 H2 : Hp} (a : Sees w H w1 H1) (b : Sees w1 H1 w2 H2) : Sees w H w2 H2 where
  keep := fun c o h m => let ⟨h1, m1⟩ := a.keep c o h m; b.keep c o h1 m1
  refs := fun n c hn h => a.refs n c hn (b.refs n c (Nat.lt_of_lt_of_le hn a.len) h)
  len := Nat.le_trans a.len b.len
theorem ItOk.mono {K : PySem.W.Frag} {g : Gx} {w w' : Wd} {H H' : Hp} {items : List VV} {J : It} (h : ItOk K g w H items J) (e : Sees w H w' H') : ItOk K g w' H' items J :=
  ⟨fun w1 h1 H1 i v s k q => h.step w1 h1 H1 i v (e.trans s) k q, fun w1 H1 s => h.stop w1 H1 (e.trans s)⟩
/-- a list that stands still, by its address -/
theorem itl_ok {K : PySem.W.Frag} {g : Gx} {w : Wd} {H : Hp} {xs : List VV} {a : Addr} {ys : List V} (st : ∀ w1 H1, Sees w H w1 H1 → SqL K H1 a ys) (r : RVs K g.adr w H xs ys) : ItOk K g w H xs (Itl K a) where
  step := fun w1 h1 H1 i v s k q => by
    obtain ⟨z, e1, r1⟩ := r.get i v q
    refine ⟨⟨ys, z, st w1 H1 s, e1⟩, fun x H2 hy => ?_⟩
    obtain ⟨e2, hx⟩ := hy
    subst e2
    have := hx ys (st w1 _ s)
    rw [e1] at this
    cases this
    exact ⟨Ext.refl _ _, k, RV.mono s _ _ r1⟩
  stop := fun w1 H1 s => ⟨ys, st w1 H1 s, by rw [r.length]; exact Nat.le_refl _⟩
theorem itt_ok {K : PySem.W.Frag} {g : Gx} {w : Wd} {H : Hp} {xs : List VV} {a : Addr} {ys : List V} (st : ∀ w1 H1, Sees w H w1 H1 → SqT K H1 a ys) (r : RVs K g.adr w H xs ys) : ItOk K g w H xs (Itt K a) where
  step := fun w1 h1 H1 i v s k q => by
    obtain ⟨z, e1, r1⟩ := r.get i v q
    refine ⟨⟨ys, z, st w1 H1 s, e1⟩, fun x H2 hy => ?_⟩
    obtain ⟨e2, hx⟩ := hy
    subst e2
    have := hx ys (st w1 _ s)
    rw [e1] at this
    cases this
    exact ⟨Ext.refl _ _, k, RV.mono s _ _ r1⟩
  stop := fun w1 H1 s => ⟨ys, st w1 H1 s, by rw [r.length]; exact Nat.le_refl _⟩
theorem RV.tup_st {K : PySem.W.Frag} {G : Nat → Addr} {w : Wd} {H : Hp} {xs : List VV} {y : V} (r : RV K G w H (.tup xs) y) : ∃ a ys, y = .ref a ∧ RVs K G w H xs ys ∧ ∀ w1 H1, Sees w H w1 H1 → SqT K H1 a ys := by
  simp only [RV] at r
  obtain ⟨a, ys, e, h, r⟩ := r
  refine ⟨a, ys, e, r, fun w1 H1 s => ?_⟩
  rcases h with h | h
  · exact .inl (.inl (s.keep a _ h.1 h.2).1)
  · exact .inr h
theorem RV.lst_st {K : PySem.W.Frag} {G : Nat → Addr} {w : Wd} {H : Hp} {xs : List VV} {y : V} (r : RV K G w H (.lst xs) y) : ∃ a ys, y = .ref a ∧ RVs K G w H xs ys ∧ ∀ w1 H1, Sees w H w1 H1 → SqL K H1 a ys := by
  simp only [RV] at r
  obtain ⟨a, ys, e, h, r⟩ := r
  exact ⟨a, ys, e, r, fun w1 H1 s => .inl (.inl (s.keep a _ h.1 h.2).1)⟩
theorem RV.rol_st {K : PySem.W.Frag} {G : Nat → Addr} {w : Wd} {H : Hp} {xs : List VV} {y : V} (r : RV K G w H (.rol xs) y) : ∃ a ys, y = .ref a ∧ RVs K G w H xs ys ∧ ∀ w1 H1, Sees w H w1 H1 → SqL K H1 a ys := by
  simp only [RV] at r
  obtain ⟨a, ys, e, h, r⟩ := r
  refine ⟨a, ys, e, r, fun w1 H1 s => ?_⟩
  rcases h with ⟨o, h⟩ | h
  · exact .inl (.inr ⟨o, (s.keep a _ h.1 h.2).1⟩)
  · exact .inr h
section
variable {X : Cx} {tg : Expr}
/-- a list or a tuple, whichever comes -/
theorem pi_seq {l : Expr} {tl : TE} (hl : PE X l tl) : PI X tg l (fun σ H R => tl σ H fun x H1 => ∃ a, x = .ref a ∧ (((∃ xs, SqL X.K H1 a xs) ∧ R (Itl X.K a) H1) ∨ ((∃ xs, SqT X.K H1 a xs) ∧ R (Itt X.K a) H1))) := by
  refine ⟨fun pins s σ H R I h => ?_⟩
  refine thn (hl.run pins s σ H _ I h) fun v s1 ⟨x, H1, I1, r1, a, e, q1⟩ => ?_
  subst e
  cases r1
  rcases q1 with ⟨⟨xs, hq⟩, q⟩ | ⟨⟨xs, hq⟩, q⟩
  · obtain ⟨its, rv, p, hz⟩ := I1.list hq
    refine wpAny_pyIter_list p.isList ?_
    refine ⟨s1.heap.objs.size, [s1.heap.objs.size], _, _, H1, rfl, I1.kept (t' := s1.toks) fun b o e => Heap.get?_push_of_some _ e, turn_list a _, ⟨_, Heap.get?_push_size _ rfl, rfl, rfl⟩, fun b hb => ?_, q⟩
    have e : b = s1.heap.objs.size := by simpa using hb
    subst e
    exact I1.fpOk (Nat.le_refl _) (I1.hok.fresh (Nat.le_refl _))
  · obtain ⟨its, rv, p, hz⟩ := I1.tuple hq
    refine wpAny_pyIter_tuple (show s1.heap.IsTuple a its.toArray from p) ?_
    refine ⟨s1.heap.objs.size, [s1.heap.objs.size], _, _, H1, rfl, I1.kept (t' := s1.toks) fun b o e => Heap.get?_push_of_some _ e, turn_tuple a _, ⟨_, Heap.get?_push_size _ rfl, rfl, rfl⟩, fun b hb => ?_, q⟩
    have e : b = s1.heap.objs.size := by simpa using hb
    subst e
    exact I1.fpOk (Nat.le_refl _) (I1.hok.fresh (Nat.le_refl _))
variable {g : Gx} {W : WX} {e e2 : Expr} {m : ME} {ma : MA} {pos p : Pos}
def seqI (a : ME) : MI := fun sv h => (a sv h).bind fun x h1 => match x with
  | .tup ys => .ok ys h1
  | .lst ys => .ok ys h1
  | .rol ys => .ok ys h1
  | _ => .bad
theorem ri_seq (ha : RE X g W e m) : RI X g W tg e (seqI m) := pi_imp (pi_seq ha) fun σ H R ⟨w, sv, h, rs, hk, p⟩ => by
  refine seqG' rs hk p fun w1 H1 h1 v y e1 rs1 k1 r1 p1 => ?_
  split at p1
  · obtain ⟨a, ys, rfl, r2, st⟩ := RV.tup_st r1
    exact ⟨a, rfl, .inr ⟨⟨ys, st w1 H1 (Sees.refl _ _)⟩, Post.here p1 k1 (itt_ok st r2)⟩⟩
  · obtain ⟨a, ys, rfl, r2, st⟩ := RV.lst_st r1
    exact ⟨a, rfl, .inl ⟨⟨ys, st w1 H1 (Sees.refl _ _)⟩, Post.here p1 k1 (itl_ok st r2)⟩⟩
  · obtain ⟨a, ys, rfl, r2, st⟩ := RV.rol_st r1
    exact ⟨a, rfl, .inl ⟨⟨ys, st w1 H1 (Sees.refl _ _)⟩, Post.here p1 k1 (itl_ok st r2)⟩⟩
  · exact p1.elim
/-- range -/
def iota (lo : Int) : Nat → List VV
  | 0 => []
  | n + 1 => .int lo :: iota (lo + 1) n
theorem iota_length (lo : Int) : ∀ n, (iota lo n).length = n
  | 0 => rfl
  | n + 1 => by simp [iota, iota_length]
theorem iota_get : ∀ (n i : Nat) (lo : Int) (v : VV), (iota lo n)[i]? = some v → i < n ∧ v = .int (lo + i)
  | 0, i, lo, v, h => by simp [iota] at h
  | n + 1, 0, lo, v, h => by simp [iota] at h; subst h; simp
  | n + 1, i + 1, lo, v, h => by
    obtain ⟨h1, h2⟩ := iota_get n i (lo + 1) v (by simpa [iota] using h)
    refine ⟨by omega, ?_⟩
    rw [h2]
    congr 1
    omega
theorem itr_ok {K : PySem.W.Frag} {w : Wd} {H : Hp} (lo : Int) (n : Nat) : ItOk K g w H (iota lo n) (Itr lo n) where
  step := fun w1 h1 H1 i v s k q => by
    obtain ⟨h2, e⟩ := iota_get n i lo v q
    refine ⟨h2, fun x H2 hy => ?_⟩
    obtain ⟨e2, hx⟩ := hy
    subst e2 e hx
    exact ⟨Ext.refl _ _, k, by simp only [RV]⟩
  stop := fun w1 H1 s => by rw [iota_length]; exact Nat.le_refl n
def rangeI (a : MA) : MI := fun sv h => (a sv h).bind fun xs h1 => match xs with
  | [.int j] => if decide (j < 4611686018427387904) && decide (-4611686018427387904 ≤ j) then .ok (iota 0 j.toNat) h1 else .bad
  | _ => .bad
def range2I (a : MA) : MI := fun sv h => (a sv h).bind fun xs h1 => match xs with
  | [.int i, .int j] => if (decide (j < 4611686018427387904) && decide (-4611686018427387904 ≤ j)) && (decide (i < 4611686018427387904) && decide (-4611686018427387904 ≤ i)) then .ok (iota i (j - i).toNat) h1 else .bad
  | _ => .bad
theorem ri_range (hg : Gl X "range") (hm : X.mg "range" = none) (ha : RA X g W [e] ma) (hs : starEach [e] X.env = [(false, eval e X.env)] := by rfl) : RI X g W tg (.Call (.Name "range" p) [e] [] pos) (rangeI ma) :=
  pi_imp (pi_range1 hg hm ha hs) fun σ H R ⟨w, sv, h, rs, hk, p⟩ => by
    refine seqG' rs hk p fun w1 H1 h1 v y e1 rs1 k1 r1 p1 => ?_
    split at p1
    · split at p1
      · rename_i j hc
        simp only [Bool.and_eq_true, decide_eq_true_eq] at hc
        obtain ⟨z, rfl, r2⟩ := RVs.one r1
        exact ⟨j, by rw [r2.int_eq], by omega, by omega, Post.here p1 k1 (itr_ok 0 _)⟩
      · exact p1.elim
    · exact p1.elim
theorem ri_range2 (hg : Gl X "range") (hm : X.mg "range" = none) (ha : RA X g W [e, e2] ma) (hs : starEach [e, e2] X.env = [(false, eval e X.env), (false, eval e2 X.env)] := by rfl) (hs2 : starEach [e2] X.env = [(false, eval e2 X.env)] := by rfl) :
    RI X g W tg (.Call (.Name "range" p) [e, e2] [] pos) (range2I ma) :=
  pi_imp (pi_range2 hg hm ha hs hs2) fun σ H R ⟨w, sv, h, rs, hk, p⟩ => by
    refine seqG' rs hk p fun w1 H1 h1 v y e1 rs1 k1 r1 p1 => ?_
    split at p1
    · split at p1
      · rename_i i j hc
        simp only [Bool.and_eq_true, decide_eq_true_eq] at hc
        obtain ⟨z, z', rfl, r2, r3⟩ := RVs.two r1
        exact ⟨i, j, by rw [r2.int_eq, r3.int_eq], ⟨by omega, by omega, by omega, by omega⟩, Post.here p1 k1 (itr_ok i _)⟩
      · exact p1.elim
    · exact p1.elim
/-- zip of two lists, of two tuples -/
def zipV : List VV → List VV → List VV
  | x :: xs, y :: ys => .tup [x, y] :: zipV xs ys
  | _, _ => []
theorem zipV_get : ∀ (xs ys : List VV) (i : Nat) (v : VV), (zipV xs ys)[i]? = some v → ∃ x y, xs[i]? = some x ∧ ys[i]? = some y ∧ v = .tup [x, y]
  | [], ys, i, v, h => by simp [zipV] at h
  | x :: xs, [], i, v, h => by simp [zipV] at h
  | x :: xs, y :: ys, 0, v, h => by simp [zipV] at h; exact ⟨x, y, rfl, rfl, h.symm⟩
  | x :: xs, y :: ys, i + 1, v, h => by simpa using zipV_get xs ys i v (by simpa [zipV] using h)
theorem zipV_length : ∀ (xs ys : List VV), (zipV xs ys).length = min xs.length ys.length
  | [], ys => by simp [zipV]
  | x :: xs, [] => by simp [zipV]
  | x :: xs, y :: ys => by
    rw [zipV, List.length_cons, zipV_length xs ys, List.length_cons, List.length_cons]
    omega
/-- the pairs of two walks of one kind -/
theorem zip_step {K : PySem.W.Frag} {w1 : Wd} {h1 : VH} {H1 H2 : Hp} {x y : VV} {a b : V} {T : Addr} (k : Hk K g.adr w1 h1 H1) (hT : H1 T = none) (e : H2 = upd H1 T (.tup [a, b])) (r1 : RV K g.adr w1 H1 x a) (r2 : RV K g.adr w1 H1 y b) :
    Ext w1 H1 w1 H2 ∧ Hk K g.adr w1 h1 H2 ∧ RV K g.adr w1 H2 (.tup [x, y]) (.ref T) := by
  subst e
  refine ⟨Ext.grow k hT, Hk.grow k hT, RV.tup_of upd_same (k.fresh hT) ?_⟩
  simp only [RVs]
  exact ⟨a, [b], rfl, RV.mono (Ext.grow k hT).sees _ _ r1, b, [], rfl, RV.mono (Ext.grow k hT).sees _ _ r2, rfl⟩
theorem itz_ok {K : PySem.W.Frag} {w : Wd} {H : Hp} {xs xs' : List VV} {a b : Addr} {ys ys' : List V} (st : ∀ w1 H1, Sees w H w1 H1 → SqL K H1 a ys) (r : RVs K g.adr w H xs ys) (st' : ∀ w1 H1, Sees w H w1 H1 → SqL K H1 b ys') (r' : RVs K g.adr w H xs' ys') :
    ItOk K g w H (zipV xs xs') (Itz K a b) where
  step := fun w1 h1 H1 i v s k q => by
    obtain ⟨x, x', q1, q2, rfl⟩ := zipV_get _ _ _ _ q
    obtain ⟨z, e1, r1⟩ := r.get i x q1
    obtain ⟨z', e2, r2⟩ := r'.get i x' q2
    refine ⟨⟨ys, ys', z, z', st w1 H1 s, st' w1 H1 s, e1, e2⟩, fun v H2 hy => ?_⟩
    obtain ⟨T, u, u', ev, hT, eH, h3, h4⟩ := hy
    have f1 := h3 ys (st w1 H1 s)
    have f2 := h4 ys' (st' w1 H1 s)
    rw [e1] at f1
    rw [e2] at f2
    cases f1
    cases f2
    rw [ev]
    exact zip_step k hT eH (RV.mono s _ _ r1) (RV.mono s _ _ r2)
  stop := fun w1 H1 s => ⟨ys, ys', st w1 H1 s, st' w1 H1 s, by rw [zipV_length, r.length, r'.length]; omega⟩
theorem itzT_ok {K : PySem.W.Frag} {w : Wd} {H : Hp} {xs xs' : List VV} {a b : Addr} {ys ys' : List V} (st : ∀ w1 H1, Sees w H w1 H1 → SqT K H1 a ys) (r : RVs K g.adr w H xs ys) (st' : ∀ w1 H1, Sees w H w1 H1 → SqT K H1 b ys') (r' : RVs K g.adr w H xs' ys') :
    ItOk K g w H (zipV xs xs') (RZ.ItzT K a b) where
  step := fun w1 h1 H1 i v s k q => by
    obtain ⟨x, x', q1, q2, rfl⟩ := zipV_get _ _ _ _ q
    obtain ⟨z, e1, r1⟩ := r.get i x q1
    obtain ⟨z', e2, r2⟩ := r'.get i x' q2
    refine ⟨⟨ys, ys', z, z', st w1 H1 s, st' w1 H1 s, e1, e2⟩, fun v H2 hy => ?_⟩
    obtain ⟨T, u, u', ev, hT, eH, h3, h4⟩ := hy
    have f1 := h3 ys (st w1 H1 s)
    have f2 := h4 ys' (st' w1 H1 s)
    rw [e1] at f1
    rw [e2] at f2
    cases f1
    cases f2
    rw [ev]
    exact zip_step k hT eH (RV.mono s _ _ r1) (RV.mono s _ _ r2)
  stop := fun w1 H1 s => ⟨ys, ys', st w1 H1 s, st' w1 H1 s, by rw [zipV_length, r.length, r'.length]; omega⟩
def zipI (a : MA) : MI := fun sv h => (a sv h).bind fun xs h1 => match xs with
  | [.tup xs, .tup ys] => .ok (zipV xs ys) h1
  | [.lst xs, .lst ys] => .ok (zipV xs ys) h1
  | _ => .bad
theorem ri_zip {elts : List Expr} {kk : Nat} {tpos : Pos} (hg : Gl X "zip") (hm : X.mg "zip" = none) (ha : RA X g W [e, e2] ma) (hs : starEach [e, e2] X.env = (false, eval e X.env) :: starEach [e2] X.env := by rfl) (hpl : (backTo pos (starEach [e2] X.env)).any (·.1) = false := by rfl) :
    RI X g W (.Tuple elts kk tpos) (.Call (.Name "zip" p) [e, e2] [] pos) (zipI ma) :=
  pi_imp (RZ.pi_zipA hg hm ha hs hpl) fun σ H R ⟨w, sv, h, rs, hk, p⟩ => by
    refine seqG' rs hk p fun w1 H1 h1 v y e1 rs1 k1 r1 p1 => ?_
    split at p1
    · obtain ⟨z, z', rfl, r2, r3⟩ := RVs.two r1
      obtain ⟨a, ys, rfl, q2, st⟩ := RV.tup_st r2
      obtain ⟨b, ys', rfl, q3, st'⟩ := RV.tup_st r3
      exact ⟨a, b, ys, ys', rfl, .inr ⟨st w1 H1 (Sees.refl _ _), st' w1 H1 (Sees.refl _ _), Post.here p1 k1 (itzT_ok st q2 st' q3)⟩⟩
    · obtain ⟨z, z', rfl, r2, r3⟩ := RVs.two r1
      obtain ⟨a, ys, rfl, q2, st⟩ := RV.lst_st r2
      obtain ⟨b, ys', rfl, q3, st'⟩ := RV.lst_st r3
      exact ⟨a, b, ys, ys', rfl, .inl ⟨st w1 H1 (Sees.refl _ _), st' w1 H1 (Sees.refl _ _), Post.here p1 k1 (itz_ok st q2 st' q3)⟩⟩
    · exact p1.elim
end

/-! ### targets -/
/-- a target: which slots get which values -/
abbrev Asg := List (Nat × VV)
abbrev MG := VV → Option Asg
def nameG (i : Nat) : MG := fun v => some [(i, v)]
abbrev MGs := List VV → Option Asg
def nilG : MGs := fun vs => match vs with | [] => some [] | _ => none
def consG (a : MG) (r : MGs) : MGs := fun vs => match vs with | v :: vs => (a v).bind fun p => (r vs).map fun q => p ++ q | [] => none
def tupG (r : MGs) : MG := fun v => match v with | .tup xs => r xs | _ => none
def setsV : Asg → Sv → Sv
  | [], sv => sv
  | (i, v) :: r, sv => setsV r (sv.set i (some v))
def setsR : List (Nat × V) → L2.St → L2.St
  | [], σ => σ
  | (i, v) :: r, σ => setsR r (σ.set i (some v))
def RAsg (K : PySem.W.Frag) (g : Gx) (w : Wd) (H : Hp) : Asg → List (Nat × V) → Prop
  | [], ya => ya = []
  | (i, v) :: r, ya => ∃ y ys, ya = (i, y) :: ys ∧ RV K g.adr w H v y ∧ RAsg K g w H r ys
theorem RAsg.app {K : PySem.W.Frag} {g : Gx} {w : Wd} {H : Hp} : ∀ {a b : Asg} {ya yb : List (Nat × V)}, RAsg K g w H a ya → RAsg K g w H b yb → RAsg K g w H (a ++ b) (ya ++ yb)
  | [], _, _, _, h, h' => by unfold RAsg at h; subst h; exact h'
  | (i, v) :: r, _, _, _, h, h' => by
    unfold RAsg at h
    obtain ⟨y, ys, rfl, h1, h2⟩ := h
    show RAsg K g w H ((i, v) :: (r ++ _)) ((i, y) :: (ys ++ _))
    unfold RAsg
    exact ⟨y, _, rfl, h1, RAsg.app h2 h'⟩
theorem setsR_app : ∀ (a b : List (Nat × V)) (σ : L2.St), setsR (a ++ b) σ = setsR b (setsR a σ)
  | [], b, σ => rfl
  | (i, v) :: r, b, σ => setsR_app r b _
theorem setsR_length : ∀ (a : List (Nat × V)) (σ : L2.St), (setsR a σ).length = σ.length
  | [], σ => rfl
  | (i, v) :: r, σ => by unfold setsR; rw [setsR_length, List.length_set]
def tGt (K : PySem.W.Frag) (g : Gx) (mg : MG) : TG := fun y σ H Q => ∃ w h v asg, Hk K g.adr w h H ∧ RV K g.adr w H v y ∧ mg v = some asg ∧ ∀ ya, RAsg K g w H asg ya → Q (setsR ya σ) H
def tGts (K : PySem.W.Frag) (g : Gx) (mg : MGs) : TGs := fun ys σ H Q => ∃ w h vs asg, Hk K g.adr w h H ∧ RVs K g.adr w H vs ys ∧ mg vs = some asg ∧ ∀ ya, RAsg K g w H asg ya → Q (setsR ya σ) H
abbrev RG (X : Cx) (g : Gx) (tg : Expr) (mg : MG) : Prop := PG X tg (tGt X.K g mg)
abbrev RGs (X : Cx) (g : Gx) (ts : List Expr) (mg : MGs) : Prop := PGs X ts (tGts X.K g mg)
theorem pg_imp {X : Cx} {tg : Expr} {t t' : TG} (h : PG X tg t) (i : ∀ y σ H Q, t' y σ H Q → t y σ H Q) : PG X tg t' := ⟨fun pins s σ H v u Q I r q => h.run pins s σ H v u Q I r (i v σ H Q q)⟩
theorem pgs_imp {X : Cx} {tg : List Expr} {t t' : TGs} (h : PGs X tg t) (i : ∀ y σ H Q, t' y σ H Q → t y σ H Q) : PGs X tg t' := ⟨fun pins s σ H v u Q I r q => h.run pins s σ H v u Q I r (i v σ H Q q)⟩
theorem RSl.set {K : PySem.W.Frag} {g : Gx} {w : Wd} {H : Hp} {sv : Sv} {σ : L2.St} {i : Nat} {v : VV} {y : V} (rs : RSl K g w H sv σ) (r : RV K g.adr w H v y) : RSl K g w H (sv.set i (some v)) (σ.set i (some y)) where
  len := by rw [List.length_set, List.length_set]; exact rs.len
  get := fun j u h => by
    by_cases c : i = j
    · subst c
      by_cases hi : i < sv.length
      · rw [List.getElem?_set_self hi] at h
        cases h
        exact ⟨y, by rw [List.getElem?_set_self (by rw [← rs.len]; exact hi)], r⟩
      · rw [List.getElem?_eq_none (by simpa using hi)] at h
        cases h
    · rw [List.getElem?_set_ne c] at h ⊢
      exact rs.get j u h
theorem RSl.sets {K : PySem.W.Frag} {g : Gx} {w : Wd} {H : Hp} : ∀ {asg : Asg} {ya : List (Nat × V)} {sv : Sv} {σ : L2.St}, RSl K g w H sv σ → RAsg K g w H asg ya → RSl K g w H (setsV asg sv) (setsR ya σ)
  | [], _, _, _, rs, r => by unfold RAsg at r; subst r; exact rs
  | (i, v) :: r, _, _, _, rs, h => by
    unfold RAsg at h
    obtain ⟨y, ys, rfl, h1, h2⟩ := h
    unfold setsV setsR
    exact RSl.sets (rs.set h1) h2
/-- the slots that a target sets -/
def InIs (mg : MG) (is : List Nat) : Prop := ∀ v asg, mg v = some asg → ∀ p ∈ asg, p.1 ∈ is
def InIss (mg : MGs) (is : List Nat) : Prop := ∀ v asg, mg v = some asg → ∀ p ∈ asg, p.1 ∈ is
theorem inis_name (i : Nat) : InIs (nameG i) [i] := fun v asg h p hp => by
  unfold nameG at h
  cases h
  simpa using congrArg Prod.fst (List.mem_singleton.mp hp)
theorem iniss_nil : InIss nilG [] := fun v asg h p hp => by
  unfold nilG at h
  split at h
  · cases h; cases hp
  · cases h
theorem iniss_cons {a : MG} {r : MGs} {is js : List Nat} (h1 : InIs a is) (h2 : InIss r js) : InIss (consG a r) (is ++ js) := fun v asg h p hp => by
  unfold consG at h
  split at h
  · obtain ⟨x, e1, h⟩ := Option.bind_eq_some_iff.mp h
    obtain ⟨y, e2, rfl⟩ := Option.map_eq_some_iff.mp h
    rcases List.mem_append.mp hp with hp | hp
    · exact List.mem_append_left _ (h1 _ _ e1 p hp)
    · exact List.mem_append_right _ (h2 _ _ e2 p hp)
  · cases h
theorem inis_tup {r : MGs} {is : List Nat} (h1 : InIss r is) : InIs (tupG r) is := fun v asg h p hp => by
  unfold tupG at h
  split at h
  · exact h1 _ _ h p hp
  · cases h
theorem setsR_ne : ∀ {ya : List (Nat × V)} {σ : L2.St} {j : Nat}, (∀ p ∈ ya, p.1 ≠ j) → (setsR ya σ)[j]? = σ[j]?
  | [], _, _, _ => rfl
  | (i, v) :: r, σ, j, h => by
    unfold setsR
    rw [setsR_ne fun p hp => h p (List.mem_cons_of_mem _ hp), List.getElem?_set_ne (h (i, v) List.mem_cons_self)]
theorem RAsg.ix {K : PySem.W.Frag} {g : Gx} {w : Wd} {H : Hp} : ∀ {asg : Asg} {ya : List (Nat × V)}, RAsg K g w H asg ya → ∀ p ∈ ya, ∃ q ∈ asg, q.1 = p.1
  | [], _, h, p, hp => by unfold RAsg at h; subst h; cases hp
  | (i, v) :: r, _, h, p, hp => by
    unfold RAsg at h
    obtain ⟨y, ys, rfl, h1, h2⟩ := h
    rcases List.mem_cons.mp hp with e | hp
    · exact ⟨(i, v), List.mem_cons_self, by rw [e]⟩
    · obtain ⟨q, hq, e⟩ := RAsg.ix h2 p hp
      exact ⟨q, List.mem_cons_of_mem _ hq, e⟩
section
variable {X : Cx} {g : Gx} {pos : Pos}
theorem rg_name (i : Nat) {x : Str} (hN : X.N.Nodup) (hi : X.N[i]? = some x := by rfl) (hx : Loc X.env.scope x := by first | exact Or.inl rfl | exact Or.inr rfl) (hf : X.fn x = true ∨ X.env.scope.names.lookup x = some .local := by first | exact .inl rfl | exact .inr rfl) : RG X g (.Name x pos) (nameG i) :=
  pg_imp (pg_name hN hi hx hf) fun y σ H Q ⟨w, h, v, asg, hk, r, e, q⟩ => by
    unfold nameG at e
    cases e
    exact q [(i, y)] (by unfold RAsg; exact ⟨y, [], rfl, r, by unfold RAsg; rfl⟩)
theorem rgs_nil : RGs X g [] nilG := pgs_imp pgs_nil fun ys σ H Q ⟨w, h, vs, asg, hk, r, e, q⟩ => by
  unfold nilG at e
  split at e
  · cases e
    exact ⟨by simpa only [RVs] using r, q [] (by unfold RAsg; rfl)⟩
  · cases e
theorem rgs_cons {e : Expr} {es : List Expr} {mg : MG} {ms : MGs} (h1 : RG X g e mg) (h2 : RGs X g es ms) (hs : (assignEach (e :: es) X.env).map (·.2) = assign e X.env :: (assignEach es X.env).map (·.2) := by rfl) : RGs X g (e :: es) (consG mg ms) :=
  pgs_imp (pgs_cons h1 h2 hs) fun ys σ H Q ⟨w, h, vs, asg, hk, r, e, q⟩ => by
    unfold consG at e
    split at e
    · rename_i v vs
      simp only [RVs] at r
      obtain ⟨y, yr, rfl, r1, r2⟩ := r
      obtain ⟨p1, e1, e⟩ := Option.bind_eq_some_iff.mp e
      obtain ⟨p2, e2, rfl⟩ := Option.map_eq_some_iff.mp e
      refine ⟨y, yr, rfl, w, h, v, p1, hk, r1, e1, fun ya ra => ?_⟩
      refine ⟨w, h, vs, p2, hk, r2, e2, fun yb rb => ?_⟩
      rw [← setsR_app]
      exact q _ (ra.app rb)
    · cases e
theorem rg_tup {es : List Expr} {k : Nat} {ms : MGs} {n : Nat} (hc : X.calm = true) (h : RGs X g es ms) (hl : ∀ vs asg, ms vs = some asg → vs.length = n) (hn : (assignEach es X.env).length = n := by rfl) (hst : (assignEach es X.env).findIdx? (·.1) = none := by rfl) : RG X g (.Tuple es k pos) (tupG ms) :=
  pg_imp (pg_tup hc h hn hst) fun y σ H Q ⟨w, h, v, asg, hk, r, e, q⟩ => by
    unfold tupG at e
    split at e
    · obtain ⟨a, ys, rfl, ha, r1⟩ := RV.tup_get r
      exact ⟨a, ys, rfl, ha, by rw [← r1.length]; exact hl _ _ e, w, h, _, asg, hk, r1, e, q⟩
    · cases e
theorem nilG_len : ∀ vs asg, nilG vs = some asg → vs.length = 0 := fun vs asg h => by
  unfold nilG at h
  split at h
  · rfl
  · cases h
theorem consG_len {a : MG} {r : MGs} {n : Nat} (hl : ∀ vs asg, r vs = some asg → vs.length = n) : ∀ vs asg, consG a r vs = some asg → vs.length = n + 1 := fun vs asg h => by
  unfold consG at h
  split at h
  · obtain ⟨p1, e1, e⟩ := Option.bind_eq_some_iff.mp h
    obtain ⟨p2, e2, rfl⟩ := Option.map_eq_some_iff.mp e
    rw [List.length_cons, hl _ _ e2]
  · cases h
end

/-! ### an object under guard: made here, changed here, seen by no other -/
def Wd.guard (w : Wd) (D : Addr) : Wd := { w with P := fun a => w.P a ∨ a = D }
def Wd.bare (w : Wd) (P : Addr → Prop) : Wd := { w with P := P }
section
variable {K : PySem.W.Frag} {g : Gx} {w w2 : Wd} {H H2 : Hp} {h h2 : VH} {D : Addr} {o : HO}
theorem mut_guard {a : Addr} : (w.guard D).mut a ↔ w.mut a ∨ a = D := by
  unfold Wd.guard Wd.mut
  constructor
  · rintro (h | (h | h) | h)
    · exact .inl (.inl h)
    · exact .inl (.inr (.inl h))
    · exact .inr h
    · exact .inl (.inr (.inr h))
  · rintro ((h | h | h) | h)
    · exact .inl h
    · exact .inr (.inl (.inl h))
    · exact .inr (.inr h)
    · exact .inr (.inl (.inr h))
theorem guard_sees (k : Hk K g.adr w h H) (hD : H D = none) : Sees w H (w.guard D) (upd H D o) where
  keep := fun a u q m => by
    have ne := ne_of_none q hD
    exact ⟨by rw [upd_ne ne]; exact q, fun z => (mut_guard.mp z).elim m ne⟩
  refs := fun _ _ _ q => q
  len := Nat.le_refl _
theorem guard_hk (k : Hk K g.adr w h H) (hD : H D = none) (hd : dat o = true := by rfl) : Hk K g.adr (w.guard D) h (upd H D o) where
  len := k.len
  inj := k.inj
  obj := fun n a hn => by
    obtain ⟨u, h1, h2⟩ := k.obj n a hn
    exact ⟨u, h1, RO.mono (guard_sees k hD) u a (fun z q => by rw [upd_ne (ne_of_none q hD)]; exact q) h2⟩
  has := k.has
  prot := fun a ha => by
    by_cases e : a = D
    · subst e
      refine ⟨by rw [upd_same]; simp, fun z => ?_⟩
      exact k.live (.inl z) hD
    · have ha' : w.P a ∨ some a ∈ w.O := by
        rcases ha with (z | z) | z
        · exact .inl z
        · exact (e z).elim
        · exact .inr z
      obtain ⟨h1, h2⟩ := k.prot a ha'
      exact ⟨by rw [upd_ne e]; exact h1, h2⟩
  own := fun a ha => by
    rcases ha with z | z
    · exact k.own a z
    · subst z
      intro q
      exact k.live (.inr (.inr q)) hD
  ownI := k.ownI
  spc := k.spc.upd hd fun a ne => ⟨id, fun z => (mut_guard.mp z).elim id fun e => (ne e).elim⟩
/-- the guarded object is changed -/
theorem guard_set_sees (hP : w2.P = (w.guard D).P) : Sees w2 H2 w2 (upd H2 D o) where
  keep := fun a u q m => by
    have ne : a ≠ D := fun e => m (.inr (.inl (by rw [hP]; exact .inr e)))
    exact ⟨by rw [upd_ne ne]; exact q, m⟩
  refs := fun _ _ _ q => q
  len := Nat.le_refl _
theorem guard_set_hk (hP : w2.P = (w.guard D).P) (k : Hk K g.adr w2 h2 H2) (hd : dat o = true := by rfl) : Hk K g.adr w2 h2 (upd H2 D o) where
  len := k.len
  inj := k.inj
  obj := fun n a hn => by
    obtain ⟨u, h1, h3⟩ := k.obj n a hn
    have ne : a ≠ D := fun e => (k.prot D (.inl (by rw [hP]; exact .inr rfl))).2 (by rw [← e]; exact List.mem_of_getElem? hn)
    exact ⟨u, h1, RO.mono (guard_set_sees hP) u a (fun z q => by rw [upd_ne ne]; exact q) h3⟩
  has := k.has
  prot := fun a ha => by
    obtain ⟨h1, h3⟩ := k.prot a ha
    by_cases e : a = D
    · subst e
      exact ⟨by rw [upd_same]; simp, h3⟩
    · exact ⟨by rw [upd_ne e]; exact h1, h3⟩
  own := k.own
  ownI := k.ownI
  spc := k.spc.put hd
/-- the guard is given up -/
theorem unguard_sees (hP : w2.P = (w.guard D).P) : Sees w2 H2 (w2.bare w.P) H2 where
  keep := fun a u q m => ⟨q, fun z => m (by
    rcases z with z | z | z
    · exact .inl z
    · exact .inr (.inl (by rw [hP]; exact .inl z))
    · exact .inr (.inr z))⟩
  refs := fun _ _ _ q => q
  len := Nat.le_refl _
theorem unguard_hk (hP : w2.P = (w.guard D).P) (k : Hk K g.adr w2 h2 H2) : Hk K g.adr (w2.bare w.P) h2 H2 where
  len := k.len
  inj := k.inj
  obj := fun n a hn => by
    obtain ⟨u, h1, h3⟩ := k.obj n a hn
    exact ⟨u, h1, RO.mono (unguard_sees hP) u a (fun z q => q) h3⟩
  has := k.has
  prot := fun a ha => k.prot a (by
    rcases ha with z | z
    · exact .inl (by rw [hP]; exact .inl z)
    · exact .inr z)
  own := fun a ha => k.own a (by rw [hP]; exact .inl ha)
  ownI := k.ownI
  spc := k.spc.imp fun a => ⟨id, fun z => by
    rcases z with z | z | z
    · exact .inl z
    · exact .inr (.inl (by rw [hP]; exact .inl z))
    · exact .inr (.inr z)⟩
end
/-- how far a guarded walk has come: all from (w, H) stands as behind an expression -/
structure Gd (w : Wd) (H : Hp) (D : Addr) (w2 : Wd) (H2 : Hp) : Prop where
  keep : ∀ a o, H a = some o → ¬ w.mut a → H2 a = some o ∧ ¬ w2.mut a
  refs : ∀ (n : Nat) (b : Addr), n < w.phi.length → w2.phi[n]? = some (some b) → w.phi[n]? = some (some b)
  len : w.phi.length ≤ w2.phi.length
  P : w2.P = (w.guard D).P
  O : w2.O = w.O
  prot : ∀ a, w.P a ∨ some a ∈ w.O → H2 a = H a
section
variable {K : PySem.W.Frag} {g : Gx} {w w2 w3 : Wd} {H H2 H3 : Hp} {h : VH} {D : Addr} {o : HO}
theorem Gd.start (k : Hk K g.adr w h H) (hD : H D = none) : Gd w H D (w.guard D) (upd H D o) where
  keep := (guard_sees k hD).keep
  refs := fun _ _ _ q => q
  len := Nat.le_refl _
  P := rfl
  O := rfl
  prot := fun a ha => upd_ne fun e => k.live (.inr ha) (e ▸ hD)
theorem Gd.sees (d : Gd w H D w2 H2) : Sees w H w2 H2 := ⟨d.keep, d.refs, d.len⟩
theorem Gd.ext (d : Gd w H D w2 H2) (e : Ext w2 H2 w3 H3) : Gd w H D w3 H3 where
  keep := (d.sees.trans e.sees).keep
  refs := (d.sees.trans e.sees).refs
  len := (d.sees.trans e.sees).len
  P := e.P.trans d.P
  O := e.O.trans d.O
  prot := fun a ha => (e.prot a (by
    rcases ha with z | z
    · exact .inl (by rw [d.P]; exact .inl z)
    · exact .inr (by rw [d.O]; exact z))).trans (d.prot a ha)
theorem Gd.set (k : Hk K g.adr w h H) (hD : H D = none) (d : Gd w H D w2 H2) : Gd w H D w2 (upd H2 D o) where
  keep := fun a u q m => by
    obtain ⟨h1, h2⟩ := d.keep a u q m
    exact ⟨by rw [upd_ne (ne_of_none q hD)]; exact h1, h2⟩
  refs := d.refs
  len := d.len
  P := d.P
  O := d.O
  prot := fun a ha => by
    rw [upd_ne (show a ≠ D from fun e => k.live (.inr ha) (by rw [e]; exact hD))]
    exact d.prot a ha
theorem Gd.done (d : Gd w H D w2 H2) : Ext w H (w2.bare w.P) H2 where
  keep := fun a u q m => by
    obtain ⟨h1, h2⟩ := d.keep a u q m
    exact ⟨h1, fun z => h2 (by
      rcases z with z | z | z
      · exact .inl z
      · exact .inr (.inl (by rw [d.P]; exact .inl z))
      · exact .inr (.inr z))⟩
  refs := d.refs
  len := d.len
  P := rfl
  O := d.O
  prot := d.prot
theorem Gd.free (k : Hk K g.adr w h H) (hD : H D = none) {h2 : VH} (k2 : Hk K g.adr w2 h2 H2) (d : Gd w H D w2 H2) : ¬ (w2.bare w.P).mut D := fun z => by
  have hP : w2.P D := by rw [d.P]; exact .inr rfl
  rcases z with z | z | z
  · exact (k2.prot D (.inl hP)).2 z
  · exact k.live (.inr (.inl z)) hD
  · exact k2.own D hP z
end

/-! ### list comprehensions -/
def wipeS (sv : Sv) : List Nat → Sv
  | [] => sv
  | v :: vs => (wipeS sv vs).set v none
theorem RSl.wipe {K : PySem.W.Frag} {g : Gx} {w : Wd} {H : Hp} {sv : Sv} {σ : L2.St} (rs : RSl K g w H sv σ) : ∀ vs, RSl K g w H (wipeS sv vs) (wipe σ vs)
  | [] => rs
  | v :: vs => by
    have ih := RSl.wipe rs vs
    unfold wipeS L2.wipe
    refine ⟨by rw [List.length_set, List.length_set]; exact ih.len, fun j u h => ?_⟩
    by_cases c : v = j
    · subst c
      by_cases hi : v < (wipeS sv vs).length
      · rw [List.getElem?_set_self hi] at h
        cases h
      · rw [List.getElem?_eq_none (by simpa using hi)] at h
        cases h
    · rw [List.getElem?_set_ne c] at h ⊢
      exact ih.get j u h
theorem wipe_get (σ : L2.St) : ∀ (vs : List Nat) (j : Nat), (wipe σ vs)[j]? = if j ∈ vs then (if j < σ.length then some none else none) else σ[j]?
  | [], j => by simp [wipe]
  | v :: vs, j => by
    unfold wipe
    by_cases c : v = j
    · subst c
      rw [if_pos List.mem_cons_self]
      by_cases hi : v < σ.length
      · rw [List.getElem?_set_self (by rw [wipe_length]; exact hi), if_pos hi]
      · rw [List.getElem?_eq_none (by rw [List.length_set, wipe_length]; omega), if_neg hi]
    · rw [List.getElem?_set_ne c, wipe_get σ vs j]
      have : (j ∈ v :: vs) ↔ j ∈ vs := by simp [Ne.symm c]
      simp only [this]
theorem wipe_eq {σ σ' : L2.St} {is vs : List Nat} (hl : σ'.length = (wipe σ vs).length) (hs : ∀ j ∈ is, j ∈ vs) (hn : ∀ j, j ∉ is → σ'[j]? = (wipe σ vs)[j]?) : wipe σ' vs = wipe σ vs := by
  rw [wipe_length] at hl
  apply List.ext_getElem?
  intro j
  rw [wipe_get, wipe_get, hl]
  by_cases c : j ∈ vs
  · rw [if_pos c, if_pos c]
  · rw [if_neg c, if_neg c, hn j fun z => c (hs j z), wipe_get, if_neg c]
def yesT : MT := fun _ h => .ok true h
/-- no exception (a comprehension's block lets none out) -/
def Out.nox {α : Type} : Out α → Out α
  | .exc _ _ => .bad
  | r => r
/-- the turns -/
def lcGo (sv : Sv) (mg : MG) (t : MT) (e : ME) : List VV → VH → Out (List VV)
  | [], h => .ok [] h
  | v :: r, h => match mg v with
    | none => .bad
    | some asg => (t (setsV asg sv) h).nox.bind fun b h1 => if b then (e (setsV asg sv) h1).nox.bind fun y h2 => (lcGo sv mg t e r h2).bind fun ys h3 => .ok (y :: ys) h3 else lcGo sv mg t e r h1
def lcM (it : MI) (mg : MG) (vs : List Nat) (t : MT) (e : ME) : ME := fun sv h => (it sv h).bind fun items h1 => if fits items.length then (lcGo (wipeS sv vs) mg t e items h1).bind fun out h2 => .ok (.lst out) h2 else .bad
abbrev W0 : WX := fun _ _ _ _ => False
theorem Out.bind_assoc {α β γ : Type} (r : Out α) (f : α → VH → Out β) (k : β → VH → Out γ) : (r.bind f).bind k = r.bind fun a h => (f a h).bind k := by cases r <;> rfl
section
variable {X : Cx} {g : Gx} {W : WX} {tg iter elt : Expr} {ifs : List Expr} {scope : Scope} {pos : Pos} {mi : MI} {mg : MG} {is : List Nat} {mt : MT} {me : ME}
abbrev RTs (X : Cx) (g : Gx) (W : WX) (ifs : List Expr) (m : MT) : Prop := PTs X ifs (tG X.K g relB m W)
theorem pts_imp {ifs : List Expr} {t t' : TT} (h : PTs X ifs t) (i : ∀ σ H Q, t' σ H Q → t σ H Q) : PTs X ifs t' := ⟨fun pins s σ H Q I q => h.run pins s σ H Q I (i σ H Q q)⟩
theorem rts_nil : RTs X g W [] yesT := pts_imp pts_nil fun σ H Q ⟨w, sv, h, rs, hk, p⟩ => Post.here p hk rfl
theorem rts_one {c : Expr} {m : MT} (h : RT X g W c m) : RTs X g W [c] m := pts_one h
/-- what the comprehension's reading asks, from the mirror -/
theorem lc_imp {vs : List Nat} (hIn : InIs mg is) (hs : ∀ j ∈ is, j ∈ vs) {σ : L2.St} {H : Hp} {Q : VK} (t : tG X.K g (relV X.K g) (lcM mi mg vs mt me) W σ H Q) :
    tLc (tG X.K g (relI X.K g) mi W) (tGt X.K g mg) (tG X.K g relB mt W0) (tG X.K g (relV X.K g) me W0) vs σ H Q := by
  obtain ⟨w, sv, h, rs, hk, p⟩ := t
  refine seqG' rs hk p fun w1 H1 h1 items J e1 rs1 k1 r1 p1 => ?_
  intro D hD
  -- p1 : the post of the turns from h1 on
  by_cases hf : fits items.length = true
  case neg => rw [if_neg hf] at p1; exact p1.elim
  rw [if_pos hf] at p1
  have hz := fits_le hf
  refine ⟨fun i m H2 => m = items.length - i ∧ i ≤ items.length ∧ ∃ w2 h2 acc accV, Gd w1 H1 D w2 H2 ∧ Hk X.K g.adr w2 h2 H2 ∧ H2 D = some (.lst accV) ∧ RVs X.K g.adr w2 H2 acc accV ∧ accV.length ≤ i ∧
      RSl X.K g w2 H2 (wipeS sv vs) (wipe σ vs) ∧ Post X.K g (relV X.K g) w1 H1 σ Q W ((lcGo (wipeS sv vs) mg mt me (items.drop i) h2).bind fun ys h3 => .ok (.lst (acc ++ ys)) h3),
    ⟨items.length, by simp, Nat.zero_le _, w1.guard D, h1, [], [], Gd.start k1 hD, guard_hk k1 hD, upd_same, by simp [RVs], Nat.le_refl _, (rs1.wipe vs).mono _ _ (guard_sees k1 hD), by simpa using p1⟩, ?_⟩
  rintro i m H2 ⟨rfl, hi, w2, h2, acc, accV, gd, k2, hD2, ra, hl, rs2, p2⟩
  by_cases hlt : i < items.length
  · -- a turn
    right
    have hv : items[i]? = some items[i] := List.getElem?_eq_getElem hlt
    generalize items[i] = v at hv
    have hdrop : items.drop i = v :: items.drop (i + 1) := by
      rw [List.drop_eq_getElem_cons hlt]
      congr 1
      rw [List.getElem?_eq_getElem hlt] at hv
      exact Option.some.inj hv
    rw [hdrop] at p2
    simp only [lcGo] at p2
    obtain ⟨go, yl⟩ := r1.step w2 h2 H2 i v gd.sees k2 hv
    refine ⟨go, fun H' => ∃ w3 h3 acc accV, Gd w1 H1 D w3 H' ∧ Hk X.K g.adr w3 h3 H' ∧ H' D = some (.lst accV) ∧ RVs X.K g.adr w3 H' acc accV ∧ accV.length ≤ i + 1 ∧
      RSl X.K g w3 H' (wipeS sv vs) (wipe σ vs) ∧ Post X.K g (relV X.K g) w1 H1 σ Q W ((lcGo (wipeS sv vs) mg mt me (items.drop (i + 1)) h3).bind fun ys h3 => .ok (.lst (acc ++ ys)) h3),
      fun H' q => ⟨items.length - (i + 1), by omega, rfl, hlt, q⟩, fun x H3 hy => ?_⟩
    obtain ⟨ex, k3, rx⟩ := yl x H3 hy
    cases em : mg v with
    | none => rw [em] at p2; exact p2.elim
    | some asg =>
      rw [em] at p2
      dsimp only at p2
      refine ⟨w2, h2, v, asg, k3, rx, em, fun ya rya => ?_⟩
      have rs3 := (rs2.mono _ _ ex.sees).sets rya
      refine ⟨wipe_eq (is := is) (setsR_length _ _) hs fun j hj => setsR_ne fun p hp z => ?_, ?_⟩
      · obtain ⟨q, hq, e⟩ := rya.ix p hp
        exact hj (by rw [← z, ← e]; exact hIn v asg em q hq)
      generalize setsV asg (wipeS sv vs) = sv2 at rs3 p2
      generalize setsR ya (wipe σ vs) = σ2 at rs3
      rw [Out.bind_assoc] at p2
      -- the test
      have gd3 := gd.ext ex
      have hD3 : H3 D = some (.lst accV) := by
        rw [ex.prot D (.inl (by rw [gd.P]; exact .inr rfl))]
        exact hD2
      have ra3 := RVs.mono ex.sees _ _ ra
      refine ⟨w2, sv2, h2, rs3, k3, ?_⟩
      cases et : mt sv2 h2 with
      | bad => rw [et] at p2; exact p2.elim
      | exc x h4 => rw [et] at p2; exact p2.elim
      | ok b h4 =>
        rw [et] at p2
        simp only [Out.nox, Out.bind] at p2
        intro w4 H4 b' e4 k4 eb
        have eb : b = b' := eb
        subst eb
        have gd4 := gd3.ext e4
        have hD4 : H4 D = some (.lst accV) := by
          rw [e4.prot D (.inl (by rw [gd3.P]; exact .inr rfl))]
          exact hD3
        have ra4 := RVs.mono e4.sees _ _ ra3
        have rs4 := (rs2.mono _ _ ex.sees).mono _ _ e4.sees
        cases b with
        | false =>
          rw [if_neg Bool.false_ne_true] at p2 ⊢
          exact ⟨w4, h4, acc, accV, gd4, k4, hD4, ra4, Nat.le_succ_of_le hl, rs4, p2⟩
        | true =>
          rw [if_pos rfl] at p2 ⊢
          refine ⟨w4, sv2, h4, rs3.mono _ _ e4.sees, k4, ?_⟩
          cases ee : me sv2 h4 with
          | bad => rw [ee] at p2; exact p2.elim
          | exc x h5 => rw [ee] at p2; exact p2.elim
          | ok yv h5 =>
            rw [ee] at p2
            simp only [Out.nox, Out.bind] at p2
            intro w5 H5 y e5 k5 ry
            have gd5 := gd4.ext e5
            have hD5 : H5 D = some (.lst accV) := by
              rw [e5.prot D (.inl (by rw [gd4.P]; exact .inr rfl))]
              exact hD4
            refine ⟨accV, hD5, Nat.lt_of_lt_of_le (Nat.lt_of_le_of_lt hl hlt) hz, w5, h5, acc ++ [yv], accV ++ [y], gd5.set k1 hD, guard_set_hk gd5.P k5, upd_same, ?_, by simp; omega, (rs4.mono _ _ e5.sees).mono _ _ (guard_set_sees gd5.P), ?_⟩
            · refine RVs.app (RVs.mono (guard_set_sees gd5.P) _ _ (RVs.mono e5.sees _ _ ra4)) ?_
              simp only [RVs]
              exact ⟨y, [], rfl, RV.mono (guard_set_sees gd5.P) _ _ ry, rfl⟩
            · cases eg : lcGo (wipeS sv vs) mg mt me (items.drop (i + 1)) h5 with
              | bad => rw [eg] at p2; exact p2.elim
              | exc x h6 => rw [eg] at p2; exact p2
              | ok ys h6 =>
                rw [eg] at p2
                simpa [Out.bind] using p2
  · left
    have e : i = items.length := by omega
    subst e
    refine ⟨r1.stop w2 H2 gd.sees, ?_⟩
    rw [List.drop_length] at p2
    refine p2 (w2.bare w1.P) H2 (.ref D) gd.done (unguard_hk gd.P k2) ?_
    refine RV.lst_of hD2 (gd.free k1 hD k2) ?_
    rw [List.append_nil]
    exact RVs.mono (unguard_sees gd.P) _ _ ra
/-- [elt for tg in iter if ..] as a value -/
theorem re_lc {own : List (Str × Nat)} (hc : X.calm = true) (hN : X.N.Nodup) (hi : RI X g W tg iter mi) (ok : BlkOk X.N X.env.scope scope own) (his : InIs mg is) (hs : ∀ j ∈ is, j ∈ own.map (·.2))
    (hg : ∀ (s : Shared) (H : Hp) (C : Addr) (cl : List (Str × Addr)) (fp : List Addr), RG (X.blk s H scope (compEnvC scope cl C X.env) fp) g tg mg) (ht : ∀ (s : Shared) (H : Hp) (C : Addr) (cl : List (Str × Addr)) (fp : List Addr), RTs (X.blk s H scope (compEnvC scope cl C X.env) fp) g W0 ifs mt)
    (he : ∀ (s : Shared) (H : Hp) (C : Addr) (cl : List (Str × Addr)) (fp : List Addr), RE (X.blk s H scope (compEnvC scope cl C X.env) fp) g W0 elt me) (hf : ∀ x, foldedSetIterable iter X.env x = pure x := by intro _; rfl) :
    RE X g W (.ListComp elt [⟨tg, iter, ifs, 0⟩] scope pos) (lcM mi mg (own.map (·.2)) mt me) :=
  pe_imp (pe_lc hc hN hi ok hg ht he hf) fun σ H Q t => lc_imp his hs t
end
end Mv
set_option Elab.async false
set_option linter.all false
set_option maxRecDepth 100000
/-! Mv, part F: frames, statements, defs. -/
namespace Mv
open PySem PySem.Spec PyProof.Rows L2

/-! ### frames -/
inductive Slot where
  | no | val (v : VV) | own (xs : List VV)
abbrev Sl := List Slot
def Slot.view : Slot → Option VV
  | .val v => some v
  | _ => none
/-- own lists seen as lists that stand -/
def Slot.viewF : Slot → Option VV
  | .val v => some v
  | .own xs => some (.lst xs)
  | .no => none
def view (sl : Sl) : Sv := sl.map Slot.view
def viewF (sl : Sl) : Sv := sl.map Slot.viewF
inductive SOut where
  | nx (sl : Sl) (h : VH) | rt (v : VV) (h : VH) | bk (sl : Sl) (h : VH) | ct (sl : Sl) (h : VH) | exc (x : Exn) (sl : Sl) (h : VH) | bad
abbrev MS := Sl → VH → SOut
def Out.toS {α : Type} (r : Out α) (sl : Sl) (k : α → VH → SOut) : SOut := match r with
  | .ok a h => k a h
  | .exc x h => .exc x sl h
  | .bad => .bad

section
variable (K : PySem.W.Frag) (g : Gx)
structure RF (w : Wd) (H : Hp) (sl : Sl) (σ : L2.St) : Prop where
  len : sl.length = σ.length
  lenO : w.O.length = sl.length
  val : ∀ (i : Nat) (v : VV), sl[i]? = some (.val v) → w.O[i]? = some none ∧ ∃ y, σ[i]? = some (some y) ∧ RV K g.adr w H v y
  own : ∀ (i : Nat) (xs : List VV), sl[i]? = some (.own xs) → ∃ p ys, w.O[i]? = some (some p) ∧ σ[i]? = some (some (.ref p)) ∧ H p = some (.lst ys) ∧ RVs K g.adr w H xs ys
  no : ∀ (i : Nat), sl[i]? = some .no → w.O[i]? = some none
end
structure ExtS (w : Wd) (H : Hp) (w' : Wd) (H' : Hp) : Prop where
  keep : ∀ a o, H a = some o → ¬ w.mut a → H' a = some o ∧ ¬ w'.mut a
  refs : ∀ (n : Nat) (b : Addr), n < w.phi.length → w'.phi[n]? = some (some b) → w.phi[n]? = some (some b)
  len : w.phi.length ≤ w'.phi.length
  P : w'.P = w.P
  prot : ∀ a, w.P a → H' a = H a
theorem Ext.toS {w w' : Wd} {H H' : Hp} (e : Ext w H w' H') : ExtS w H w' H' := ⟨e.keep, e.refs, e.len, e.P, fun a h => e.prot a (.inl h)⟩
theorem ExtS.refl (w : Wd) (H : Hp) : ExtS w H w H := (Ext.refl w H).toS
theorem ExtS.sees {w w' : Wd} {H H' : Hp} (e : ExtS w H w' H') : Sees w H w' H' := ⟨e.keep, e.refs, e.len⟩
theorem ExtS.trans {w w1 w2 : Wd} {H H1 H2 : Hp} (a : ExtS w H w1 H1) (b : ExtS w1 H1 w2 H2) : ExtS w H w2 H2 where
  keep := (a.sees.trans b.sees).keep
  refs := (a.sees.trans b.sees).refs
  len := (a.sees.trans b.sees).len
  P := b.P.trans a.P
  prot := fun c h => (b.prot c (by rw [a.P]; exact h)).trans (a.prot c h)

section
variable {K : PySem.W.Frag} {g : Gx} {w w' w1 : Wd} {H H' H1 : Hp} {h h1 : VH} {sl : Sl} {σ : L2.St}
theorem view_get {i : Nat} {v : VV} (e : (view sl)[i]? = some (some v)) : sl[i]? = some (.val v) := by
  unfold view at e
  rw [List.getElem?_map] at e
  cases q : sl[i]? with
  | none => rw [q] at e; cases e
  | some s =>
    rw [q] at e
    cases s with
    | val u => simp only [Option.map_some, Slot.view, Option.some.injEq] at e; rw [e]
    | no => simp [Slot.view] at e
    | own xs => simp [Slot.view] at e
theorem RF.rsl (f : RF K g w H sl σ) : RSl K g w H (view sl) σ := ⟨by unfold view; rw [List.length_map]; exact f.len, fun i v e => (f.val i v (view_get e)).2⟩
theorem RF.mono (f : RF K g w H sl σ) (e : Ext w H w' H') : RF K g w' H' sl σ where
  len := f.len
  lenO := by rw [e.O]; exact f.lenO
  val := fun i v q => by
    obtain ⟨h1, y, h2, h3⟩ := f.val i v q
    exact ⟨by rw [e.O]; exact h1, y, h2, RV.mono e.sees _ _ h3⟩
  own := fun i xs q => by
    obtain ⟨p, ys, h1, h2, h3, h4⟩ := f.own i xs q
    exact ⟨p, ys, by rw [e.O]; exact h1, h2, by rw [e.prot p (.inr (List.mem_of_getElem? h1))]; exact h3, RVs.mono e.sees _ _ h4⟩
  no := fun i q => by rw [e.O]; exact f.no i q
/-- seen with the own lists standing -/
def Wd.ice (w : Wd) : Wd := { w with O := List.replicate w.O.length none }
theorem mut_ice {a : Addr} : w.ice.mut a ↔ (some a ∈ w.phi ∨ w.P a) := by
  unfold Wd.ice Wd.mut
  constructor
  · rintro (h | h | h)
    · exact .inl h
    · exact .inr h
    · exact absurd (List.eq_of_mem_replicate h) (by simp)
  · rintro (h | h)
    · exact .inl h
    · exact .inr (.inl h)
theorem ice_sees : Sees w H w.ice H := ⟨fun a o q m => ⟨q, fun z => m ((mut_ice.mp z).elim .inl fun z => .inr (.inl z))⟩, fun _ _ _ q => q, Nat.le_refl _⟩
theorem Hk.ice (k : Hk K g.adr w h H) : Hk K g.adr w.ice h H where
  len := k.len
  inj := k.inj
  obj := fun n a hn => by
    obtain ⟨u, h1, h3⟩ := k.obj n a hn
    exact ⟨u, h1, RO.mono ice_sees u a (fun z q => q) h3⟩
  has := k.has
  prot := fun a ha => by
    rcases ha with z | z
    · exact k.prot a (.inl z)
    · exact absurd (List.eq_of_mem_replicate z) (by simp)
  own := fun a _ z => absurd (List.eq_of_mem_replicate z) (by simp)
  ownI := fun n m a hn _ => absurd (List.eq_of_mem_replicate (List.mem_of_getElem? hn)) (by simp)
  spc := k.spc.imp fun a => ⟨id, fun z => (mut_ice.mp z).elim .inl fun z => .inr (.inl z)⟩
theorem viewF_get {i : Nat} {v : VV} (e : (viewF sl)[i]? = some (some v)) : sl[i]? = some (.val v) ∨ ∃ xs, sl[i]? = some (.own xs) ∧ v = .lst xs := by
  unfold viewF at e
  rw [List.getElem?_map] at e
  cases q : sl[i]? with
  | none => rw [q] at e; cases e
  | some s =>
    rw [q] at e
    cases s with
    | val u => simp only [Option.map_some, Slot.viewF, Option.some.injEq] at e; rw [e]; exact .inl rfl
    | no => simp [Slot.viewF] at e
    | own xs => simp only [Option.map_some, Slot.viewF, Option.some.injEq] at e; exact .inr ⟨xs, rfl, e.symm⟩
theorem own_ice (k : Hk K g.adr w h H) {i : Nat} {p : Addr} (e : w.O[i]? = some (some p)) : ¬ w.ice.mut p := fun z => by
  rcases mut_ice.mp z with z | z
  · exact (k.prot p (.inr (List.mem_of_getElem? e))).2 z
  · exact k.own p z (List.mem_of_getElem? e)
theorem RF.rslF (k : Hk K g.adr w h H) (f : RF K g w H sl σ) : RSl K g w.ice H (viewF sl) σ := ⟨by unfold viewF; rw [List.length_map]; exact f.len, fun i v e => by
  rcases viewF_get e with q | ⟨xs, q, rfl⟩
  · obtain ⟨_, y, h2, h3⟩ := f.val i v q
    exact ⟨y, h2, RV.mono ice_sees _ _ h3⟩
  · obtain ⟨p, ys, h1, h2, h3, h4⟩ := f.own i xs q
    exact ⟨_, h2, RV.lst_of h3 (own_ice k h1) (RVs.mono ice_sees _ _ h4)⟩⟩
/-- the own lists are the frame's again -/
def Wd.thaw (w1 w : Wd) : Wd := { w1 with O := w.O }
theorem thaw_ext (k : Hk K g.adr w h H) (e : Ext w.ice H w1 H1) (ow : ∀ a, some a ∈ w.O → ∃ ys, H a = some (.lst ys)) : Ext w H (w1.thaw w) H1 where
  keep := fun a o q m => by
    have m1 : ¬ w.ice.mut a := fun z => m ((mut_ice.mp z).elim .inl fun z => .inr (.inl z))
    obtain ⟨h1, h2⟩ := e.keep a o q m1
    exact ⟨h1, fun z => by
      rcases z with z | z | z
      · exact h2 (.inl z)
      · exact h2 (.inr (.inl z))
      · exact m (.inr (.inr z))⟩
  refs := e.refs
  len := e.len
  P := e.P
  O := rfl
  prot := fun a ha => by
    rcases ha with z | z
    · exact e.prot a (.inl z)
    · obtain ⟨ys, q⟩ := ow a z
      obtain ⟨i, hi⟩ := List.getElem?_of_mem z
      rw [q]
      exact (e.keep a _ q (own_ice k hi)).1
end
/-! ### values without lists of their own -/
mutual
def flat : VV → Bool
  | .lst _ => false
  | .rol _ => false
  | .dct _ _ => false
  | .ins _ _ => false
  | .tup xs => flats xs
  | _ => true
def flats : List VV → Bool
  | [] => true
  | x :: xs => flat x && flats xs
end
def flatO : VO → Bool
  | .lst xs => flats xs
  | .dead => true
  | .tbl _ _ => true
section
variable {K : PySem.W.Frag} {g : Gx} {w w1 : Wd} {H H1 : Hp} {h h1 : VH} {G : Nat → Addr}
mutual
theorem flat_thaw (no : ∀ a ys, H1 a = some (.tup ys) → ¬ w1.mut a → ¬ (w1.thaw w).mut a) : ∀ (v : VV) (y : V), flat v = true → RV K G w1 H1 v y → RV K G (w1.thaw w) H1 v y
  | .non, _, _, r => by simp only [RV] at r ⊢; exact r
  | .bl _, _, _, r => by simp only [RV] at r ⊢; exact r
  | .int _, _, _, r => by simp only [RV] at r ⊢; exact r
  | .str _, _, _, r => by simp only [RV] at r ⊢; exact r
  | .ty _, _, _, r => by simp only [RV] at r ⊢; exact r
  | .adr _, _, _, r => by simp only [RV] at r ⊢; exact r
  | .ref _, _, _, r => by simp only [RV] at r ⊢; exact r
  | .tup xs, _, f, r => by
    simp only [flat] at f
    simp only [RV] at r ⊢
    obtain ⟨a, ys, e, q, r⟩ := r
    exact ⟨a, ys, e, q.imp (fun q => ⟨q.1, no a ys q.1 q.2⟩) id, flats_thaw no xs ys f r⟩
  | .lst _, _, f, _ => by simp only [flat] at f; cases f
  | .rol _, _, f, _ => by simp only [flat] at f; cases f
  | .dct _ _, _, f, _ => by simp only [flat] at f; cases f
  | .ins _ _, _, f, _ => by simp only [flat] at f; cases f
theorem flats_thaw (no : ∀ a ys, H1 a = some (.tup ys) → ¬ w1.mut a → ¬ (w1.thaw w).mut a) : ∀ (v : List VV) (y : List V), flats v = true → RVs K G w1 H1 v y → RVs K G (w1.thaw w) H1 v y
  | [], _, _, r => by simp only [RVs] at r ⊢; exact r
  | x :: xs, _, f, r => by
    simp only [flats, Bool.and_eq_true] at f
    simp only [RVs] at r ⊢
    obtain ⟨y, ys, e, r1, r2⟩ := r
    exact ⟨y, ys, e, flat_thaw no x y f.1 r1, flats_thaw no xs ys f.2 r2⟩
end
theorem thaw_no (k : Hk K g.adr w h H) (e : Ext w.ice H w1 H1) (ow : ∀ a, some a ∈ w.O → ∃ ys, H a = some (.lst ys)) : ∀ a ys, H1 a = some (.tup ys) → ¬ w1.mut a → ¬ (w1.thaw w).mut a := fun a ys q m z => by
  rcases z with z | z | z
  · exact m (.inl z)
  · exact m (.inr (.inl z))
  · obtain ⟨xs, q2⟩ := ow a z
    obtain ⟨i, hi⟩ := List.getElem?_of_mem z
    rw [(e.keep a _ q2 (own_ice k hi)).1] at q
    cases q
theorem thaw_hk (k : Hk K g.adr w h H) (k1 : Hk K g.adr w1 h1 H1) (e : Ext w.ice H w1 H1) (ow : ∀ a, some a ∈ w.O → ∃ ys, H a = some (.lst ys)) (fl : h1.all flatO = true) : Hk K g.adr (w1.thaw w) h1 H1 where
  len := k1.len
  inj := k1.inj
  obj := fun n a hn => by
    obtain ⟨u, h2, h3⟩ := k1.obj n a hn
    refine ⟨u, h2, ?_⟩
    have fu := List.all_eq_true.mp fl u (List.mem_of_getElem? h2)
    cases u with
    | lst xs =>
      obtain ⟨ys, q1, q2⟩ := h3
      exact ⟨ys, q1, flats_thaw (thaw_no k e ow) _ _ fu q2⟩
    | dead => exact h3.elim
    | tbl m q =>
      obtain ⟨q0, ps, q1, q2, q3⟩ := h3
      refine ⟨q0, ps, q1, q2, fun pos cv z => ?_⟩
      obtain ⟨c, z1, z2, z3⟩ := q3 pos cv z
      refine ⟨c, z1, z2, fun y => ?_⟩
      rcases y with y | y | y
      · exact z3 (.inl y)
      · exact z3 (.inr (.inl y))
      · obtain ⟨ys, y2⟩ := ow c y
        obtain ⟨i, hi⟩ := List.getElem?_of_mem y
        have y3 := (e.keep c _ y2 (own_ice k hi)).1
        rw [z2] at y3
        cases y3
  has := k1.has
  prot := fun a ha => by
    rcases ha with z | z
    · exact k1.prot a (.inl z)
    · obtain ⟨ys, q⟩ := ow a z
      obtain ⟨i, hi⟩ := List.getElem?_of_mem z
      obtain ⟨h2, h3⟩ := e.keep a _ q (own_ice k hi)
      exact ⟨by rw [h2]; simp, fun z => h3 (.inl z)⟩
  own := fun a ha z => k.own a (by rw [show (w1.thaw w).P = w.P from e.P] at ha; exact ha) z
  ownI := k.ownI
  spc := fun a o q => by
    have h1 := k1.spc a o q
    cases o with
    | tbl _ => exact h1
    | ext φ =>
      intro y
      rcases y with y | y | y
      · exact h1 (.inl y)
      · exact h1 (.inr (.inl y))
      · obtain ⟨ys, y2⟩ := ow a y
        obtain ⟨i, hi⟩ := List.getElem?_of_mem y
        have y3 := (e.keep a _ y2 (own_ice k hi)).1
        rw [q] at y3
        cases y3
    | _ => trivial
theorem RF.ow {sl : Sl} {σ : L2.St} (f : RF K g w H sl σ) : ∀ a, some a ∈ w.O → ∃ ys, H a = some (.lst ys) := fun a ha => by
  obtain ⟨i, hi⟩ := List.getElem?_of_mem ha
  have hl := (List.getElem?_eq_some_iff.mp hi).1
  rw [f.lenO] at hl
  have hs : sl[i]? = some sl[i] := List.getElem?_eq_getElem hl
  cases q : sl[i] with
  | no =>
    rw [q] at hs
    have := f.no i hs
    rw [hi] at this
    cases this
  | val v =>
    rw [q] at hs
    have := (f.val i v hs).1
    rw [hi] at this
    cases this
  | own xs =>
    rw [q] at hs
    obtain ⟨p, ys, h1, _, h3, _⟩ := f.own i xs hs
    rw [hi] at h1
    cases h1
    exact ⟨ys, h3⟩
end

/-! ### statements -/
section
variable (K : PySem.W.Frag) (g : Gx)
def PostS (w : Wd) (H : Hp) (D : Ends) (W : WX) : SOut → Prop
  | .nx sl h => ∀ w' H' σ', ExtS w H w' H' → Hk K g.adr w' h H' → RF K g w' H' sl σ' → D.nx σ' H'
  | .bk sl h => ∀ w' H' σ', ExtS w H w' H' → Hk K g.adr w' h H' → RF K g w' H' sl σ' → D.bk σ' H'
  | .ct sl h => ∀ w' H' σ', ExtS w H w' H' → Hk K g.adr w' h H' → RF K g w' H' sl σ' → D.ct σ' H'
  | .rt v h => ∀ w' H' y, ExtS w H w' H' → Hk K g.adr w' h H' → RV K g.adr w' H' v y → D.rt y H'
  | .exc x sl h => ∀ w' H' σ' cls d, ExtS w H w' H' → Hk K g.adr w' h H' → RF K g w' H' sl σ' → RX K g w' H' x cls d → W cls d σ' H'
  | .bad => False
def tS (m : MS) (W : WX) : TS := fun D σ H => ∃ w sl h, RF K g w H sl σ ∧ Hk K g.adr w h H ∧ PostS K g w H D W (m sl h)
end
abbrev RS (X : Cx) (g : Gx) (W : WX) (st : Stmt) (m : MS) : Prop := PS X st (tS X.K g m W)
abbrev RSs (X : Cx) (g : Gx) (W : WX) (sts : List Stmt) (m : MS) : Prop := PSs X sts (tS X.K g m W)
section
variable {K : PySem.W.Frag} {g : Gx} {w w' w1 : Wd} {H H' H1 : Hp} {h h1 : VH} {sl : Sl} {σ : L2.St} {W : WX} {D D' : Ends}
theorem PostS.mono (e : ExtS w H w' H') : ∀ {r : SOut}, PostS K g w H D W r → PostS K g w' H' D W r
  | .nx sl h, p => fun w2 H2 σ' e2 k r => p w2 H2 σ' (e.trans e2) k r
  | .bk sl h, p => fun w2 H2 σ' e2 k r => p w2 H2 σ' (e.trans e2) k r
  | .ct sl h, p => fun w2 H2 σ' e2 k r => p w2 H2 σ' (e.trans e2) k r
  | .rt v h, p => fun w2 H2 y e2 k r => p w2 H2 y (e.trans e2) k r
  | .exc x sl h, p => fun w2 H2 σ' cls d e2 k f r => p w2 H2 σ' cls d (e.trans e2) k f r
  | .bad, p => p
/-- a first expression, then the rest of a statement -/
theorem seqS {α β : Type} {R : Rel α β} {T : β → Hp → Prop} {m : Sv → VH → Out α} {k : α → VH → SOut} (f : RF K g w H sl σ) (hk : Hk K g.adr w h H) (p : PostS K g w H D W ((m (view sl) h).toS sl k))
    (i : ∀ w1 H1 h1 v y, ExtS w H w1 H1 → RF K g w1 H1 sl σ → Hk K g.adr w1 h1 H1 → R w1 H1 v y → PostS K g w1 H1 D W (k v h1) → T y H1) : tG K g R m W σ H T := by
  refine ⟨w, view sl, h, f.rsl, hk, ?_⟩
  cases e : m (view sl) h with
  | ok v h1 =>
    rw [e] at p
    exact fun w1 H1 y e1 k1 r => i w1 H1 h1 v y e1.toS (f.mono e1) k1 r (PostS.mono e1.toS p)
  | exc x h1 =>
    rw [e] at p
    exact fun w1 H1 cls d e1 k1 r => p w1 H1 σ cls d e1.toS k1 (f.mono e1) r
  | bad =>
    rw [e] at p
    exact p
/-- the same with the own lists standing; what comes of it holds no list -/
def iceM {α : Type} (fl : α → Bool) (m : Sv → VH → Out α) : Sv → VH → Out α := fun sv h => (m sv h).bind fun v h1 => if fl v && h1.all flatO then .ok v h1 else .bad
theorem seqF {α β : Type} {R : Rel α β} {T : β → Hp → Prop} {fl : α → Bool} {m : Sv → VH → Out α} {k : α → VH → SOut} (hR : ∀ w w1 H1 v y, (∀ a ys, H1 a = some (.tup ys) → ¬ w1.mut a → ¬ (w1.thaw w).mut a) → fl v = true → R w1 H1 v y → R (w1.thaw w) H1 v y)
    (f : RF K g w H sl σ) (hk : Hk K g.adr w h H) (p : PostS K g w H D W ((iceM fl m (viewF sl) h).nox.toS sl k))
    (i : ∀ w1 H1 h1 v y, ExtS w H w1 H1 → RF K g w1 H1 sl σ → Hk K g.adr w1 h1 H1 → R w1 H1 v y → PostS K g w1 H1 D W (k v h1) → T y H1) : tG K g R m W σ H T := by
  refine ⟨w.ice, viewF sl, h, f.rslF hk, hk.ice, ?_⟩
  unfold iceM at p
  cases e : m (viewF sl) h with
  | ok v h1 =>
    rw [e] at p
    simp only [Out.bind] at p
    by_cases c : (fl v && h1.all flatO) = true
    · rw [if_pos c] at p
      obtain ⟨c1, c2⟩ := Bool.and_eq_true_iff.mp c
      intro w1 H1 y e1 k1 r
      have e2 := thaw_ext hk e1 f.ow
      exact i _ H1 h1 v y e2.toS (f.mono e2) (thaw_hk hk k1 e1 f.ow c2) (hR w w1 H1 v y (thaw_no hk e1 f.ow) c1 r) (PostS.mono e2.toS p)
    · rw [if_neg c] at p
      exact p.elim
  | exc x h1 =>
    rw [e] at p
    exact p.elim
  | bad =>
    rw [e] at p
    exact p.elim
end
section
variable {X : Cx} {g : Gx} {W : WX} {st : Stmt} {rest : List Stmt} {m m2 : MS} {e : Expr} {me : ME} {pos : Pos}
def skipM : MS := fun sl h => .nx sl h
def seqM (a b : MS) : MS := fun sl h => match a sl h with
  | .nx sl1 h1 => b sl1 h1
  | r => r
theorem rss_nil : RSs X g W [] skipM := pss_imp pss_nil fun D σ H ⟨w, sl, h, f, k, p⟩ => p w H σ (ExtS.refl _ _) k f
theorem rss_cons (h1 : RS X g W st m) (h2 : RSs X g W rest m2) : RSs X g W (st :: rest) (seqM m m2) :=
  pss_imp (pss_cons h1 h2) fun D σ H ⟨w, sl, h, f, k, p⟩ => by
    refine ⟨w, sl, h, f, k, ?_⟩
    unfold seqM at p
    cases e : m sl h with
    | nx sl1 h1 =>
      rw [e] at p
      exact fun w1 H1 σ1 e1 k1 f1 => ⟨w1, sl1, h1, f1, k1, PostS.mono e1 p⟩
    | rt v h1 => rw [e] at p; exact p
    | bk sl1 h1 => rw [e] at p; exact p
    | ct sl1 h1 => rw [e] at p; exact p
    | exc x sl1 h1 => rw [e] at p; exact p
    | bad => rw [e] at p; exact p
theorem rss_one (h1 : RS X g W st m) : RSs X g W [st] m := pss_one h1
theorem rs_pass : RS X g W (.Pass pos) skipM := ps_imp ps_pass fun D σ H ⟨w, sl, h, f, k, p⟩ => p w H σ (ExtS.refl _ _) k f
theorem rs_break : RS X g W (.Break pos) (fun sl h => .bk sl h) := ps_imp ps_break fun D σ H ⟨w, sl, h, f, k, p⟩ => p w H σ (ExtS.refl _ _) k f
theorem rs_continue : RS X g W (.Continue pos) (fun sl h => .ct sl h) := ps_imp ps_continue fun D σ H ⟨w, sl, h, f, k, p⟩ => p w H σ (ExtS.refl _ _) k f
theorem rs_doc {x j pos'} : RS X g W (.Expr (.Constant (.str x) j pos) pos') skipM := ps_imp ps_doc fun D σ H ⟨w, sl, h, f, k, p⟩ => p w H σ (ExtS.refl _ _) k f
/-- what the proof never comes to -/
theorem rs_never : RS X g W st (fun _ _ => .bad) := ps_imp ps_never fun D σ H ⟨w, sl, h, f, k, p⟩ => p
theorem rss_never : RSs X g W rest (fun _ _ => .bad) := pss_imp pss_never fun D σ H ⟨w, sl, h, f, k, p⟩ => p
def dropM (a : ME) : MS := fun sl h => (a (view sl) h).toS sl fun _ h1 => .nx sl h1
theorem rs_expr (he : RE X g W e me) (hs : swapsWith e none pos.line X.env = pure false := by rfl) : RS X g W (.Expr e pos) (dropM me) :=
  ps_imp (ps_expr he hs) fun D σ H ⟨w, sl, h, f, k, p⟩ => seqS f k p fun w1 H1 h1 v y e1 f1 k1 r1 p1 => p1 w1 H1 σ (ExtS.refl _ _) k1 f1
/-- return: the own lists stand from here on -/
def retM (a : ME) : MS := fun sl h => (a (viewF sl) h).toS sl fun v h1 => .rt v h1
theorem ice_toS {K : PySem.W.Frag} {w w1 : Wd} {H H1 : Hp} (e : Ext w.ice H w1 H1) : ExtS w H w1 H1 where
  keep := fun a o q m => e.keep a o q fun z => m ((mut_ice.mp z).elim .inl fun z => .inr (.inl z))
  refs := e.refs
  len := e.len
  P := e.P
  prot := fun a ha => e.prot a (.inl ha)
theorem rs_ret (he : RE X g W e me) (hx : ∀ sv h x h1, me sv h ≠ .exc x h1) : RS X g W (.Return (some e) pos) (retM me) :=
  ps_imp (ps_ret he) fun D σ H ⟨w, sl, h, f, k, p⟩ => by
    refine ⟨w.ice, viewF sl, h, f.rslF k, k.ice, ?_⟩
    unfold retM at p
    cases q : me (viewF sl) h with
    | ok v h1 =>
      rw [q] at p
      exact fun w1 H1 y e1 k1 r => p w1 H1 y (ice_toS (K := X.K) e1) k1 r
    | exc x h1 => exact (hx _ _ _ _ q).elim
    | bad =>
      rw [q] at p
      exact p
/-- return of an expression that reads no own list -/
def retV (a : ME) : MS := fun sl h => (a (view sl) h).toS sl fun v h1 => .rt v h1
theorem rs_retV (he : RE X g W e me) : RS X g W (.Return (some e) pos) (retV me) :=
  ps_imp (ps_ret he) fun D σ H ⟨w, sl, h, f, k, p⟩ => seqS f k p fun w1 H1 h1 v y e1 f1 k1 r1 p1 => p1 w1 H1 y (ExtS.refl _ _) k1 r1
/-- return of an expression that reads own lists and raises nothing -/
def retF (a : ME) : MS := fun sl h => (a (viewF sl) h).nox.toS sl fun v h1 => .rt v h1
theorem rs_retF (he : RE X g W e me) : RS X g W (.Return (some e) pos) (retF me) :=
  ps_imp (ps_ret he) fun D σ H ⟨w, sl, h, f, k, p⟩ => by
    refine ⟨w.ice, viewF sl, h, f.rslF k, k.ice, ?_⟩
    unfold retF at p
    cases q : me (viewF sl) h with
    | ok v h1 =>
      rw [q] at p
      exact fun w1 H1 y e1 k1 r => p w1 H1 y (ice_toS (K := X.K) e1) k1 r
    | exc x h1 =>
      rw [q] at p
      exact p.elim
    | bad =>
      rw [q] at p
      exact p
theorem rs_retN : RS X g W (.Return none pos) (fun _ h => .rt .non h) := ps_imp ps_retN fun D σ H ⟨w, sl, h, f, k, p⟩ => p w H .non (ExtS.refl _ _) k (by simp only [RV])
def ifS (c : MT) (a b : MS) : MS := fun sl h => (c (view sl) h).toS sl fun k h1 => if k then a sl h1 else b sl h1
theorem rs_if {c : Expr} {mc : MT} {as bs : List Stmt} (hc : RT X g W c mc) (ha : RSs X g W as m) (hb : RSs X g W bs m2) : RS X g W (.If c as bs pos) (ifS mc m m2) :=
  ps_imp (ps_if hc ha hb) fun D σ H ⟨w, sl, h, f, k, p⟩ => seqS f k p fun w1 H1 h1 v y e1 f1 k1 r1 p1 => by
    have e : v = y := r1
    subst e
    cases v with
    | true => exact iteT ⟨w1, sl, h1, f1, k1, p1⟩
    | false => exact iteF ⟨w1, sl, h1, f1, k1, p1⟩
end
end Mv
set_option Elab.async false
set_option linter.all false
set_option maxRecDepth 100000
/-! Mv, part G: names set, own lists, loops. -/
namespace Mv
open PySem PySem.Spec PyProof.Rows L2

section
variable {K : PySem.W.Frag} {g : Gx} {w w' w1 : Wd} {H H' H1 : Hp} {h h1 : VH} {sl : Sl} {σ : L2.St} {i : Nat}
def Wd.drop (w : Wd) (i : Nat) : Wd := { w with O := w.O.set i none }
theorem mut_drop {a : Addr} : (w.drop i).mut a → w.mut a := by
  rintro (z | z | z)
  · exact .inl z
  · exact .inr (.inl z)
  · rcases List.mem_or_eq_of_mem_set z with z | z
    · exact .inr (.inr z)
    · cases z
theorem drop_sees : Sees w H (w.drop i) H := ⟨fun a o q m => ⟨q, fun z => m (mut_drop z)⟩, fun _ _ _ q => q, Nat.le_refl _⟩
theorem drop_ext : ExtS w H (w.drop i) H := ⟨(drop_sees (w := w) (H := H) (i := i)).keep, (drop_sees (w := w) (H := H) (i := i)).refs, (drop_sees (w := w) (H := H) (i := i)).len, rfl, fun _ _ => rfl⟩
theorem drop_O {n : Nat} {a : Addr} (e : (w.drop i).O[n]? = some (some a)) : w.O[n]? = some (some a) := by
  unfold Wd.drop at e
  rw [List.getElem?_set] at e
  split at e
  · split at e
    · cases e
    · cases e
  · exact e
theorem Hk.drop (k : Hk K g.adr w h H) : Hk K g.adr (w.drop i) h H where
  len := k.len
  inj := k.inj
  obj := fun n a hn => by
    obtain ⟨u, h1, h3⟩ := k.obj n a hn
    exact ⟨u, h1, RO.mono drop_sees u a (fun z q => q) h3⟩
  has := k.has
  prot := fun a ha => by
    rcases ha with z | z
    · exact k.prot a (.inl z)
    · rcases List.mem_or_eq_of_mem_set z with z | z
      · exact k.prot a (.inr z)
      · cases z
  own := fun a ha z => by
    rcases List.mem_or_eq_of_mem_set z with z | z
    · exact k.own a ha z
    · cases z
  ownI := fun n m a hn hm => k.ownI n m a (drop_O hn) (drop_O hm)
  spc := k.spc.imp fun a => ⟨id, mut_drop⟩
/-- a name's value is set -/
theorem RF.setv (f : RF K g w H sl σ) {v : VV} {y : V} (r : RV K g.adr w H v y) : RF K g (w.drop i) H (sl.set i (.val v)) (σ.set i (some y)) where
  len := by rw [List.length_set, List.length_set]; exact f.len
  lenO := by unfold Wd.drop; rw [List.length_set, List.length_set]; exact f.lenO
  val := fun j u q => by
    have hl := f.len
    have hO := f.lenO
    rw [List.getElem?_set] at q
    by_cases e : i = j
    · subst e
      rw [if_pos rfl] at q
      by_cases hi : i < sl.length
      · rw [if_pos hi] at q
        cases q
        refine ⟨?_, y, ?_, RV.mono drop_sees _ _ r⟩
        · unfold Wd.drop
          rw [List.getElem?_set, if_pos rfl, if_pos (by omega)]
        · rw [List.getElem?_set, if_pos rfl, if_pos (by omega)]
      · rw [if_neg hi] at q
        cases q
    · rw [if_neg e] at q
      obtain ⟨h1, z, h2, h3⟩ := f.val j u q
      refine ⟨?_, z, ?_, RV.mono drop_sees _ _ h3⟩
      · unfold Wd.drop
        rw [List.getElem?_set, if_neg e]
        exact h1
      · rw [List.getElem?_set, if_neg e]
        exact h2
  own := fun j xs q => by
    rw [List.getElem?_set] at q
    by_cases e : i = j
    · subst e
      rw [if_pos rfl] at q
      split at q
      · cases q
      · cases q
    · rw [if_neg e] at q
      obtain ⟨p, ys, h1, h2, h3, h4⟩ := f.own j xs q
      refine ⟨p, ys, ?_, ?_, h3, RVs.mono drop_sees _ _ h4⟩
      · unfold Wd.drop
        rw [List.getElem?_set, if_neg e]
        exact h1
      · rw [List.getElem?_set, if_neg e]
        exact h2
  no := fun j q => by
    rw [List.getElem?_set] at q
    by_cases e : i = j
    · subst e
      rw [if_pos rfl] at q
      split at q
      · cases q
      · cases q
    · rw [if_neg e] at q
      unfold Wd.drop
      rw [List.getElem?_set, if_neg e]
      exact f.no j q
theorem RAsg.mono {K : PySem.W.Frag} {g : Gx} {w w' : Wd} {H H' : Hp} (e : Sees w H w' H') : ∀ {asg : Asg} {ya : List (Nat × V)}, RAsg K g w H asg ya → RAsg K g w' H' asg ya
  | [], _, r => by unfold RAsg at r ⊢; exact r
  | (i, v) :: r, _, h => by
    unfold RAsg at h ⊢
    obtain ⟨y, ys, e1, h1, h2⟩ := h
    exact ⟨y, ys, e1, RV.mono e _ _ h1, RAsg.mono e h2⟩
def setsS : Asg → Sl → Sl
  | [], sl => sl
  | (i, v) :: r, sl => setsS r (sl.set i (.val v))
/-- several at once -/
theorem RF.sets : ∀ {asg : Asg} {ya : List (Nat × V)} {w : Wd} {sl : Sl} {σ : L2.St}, RF K g w H sl σ → Hk K g.adr w h H → RAsg K g w H asg ya → ∃ w1, ExtS w H w1 H ∧ Hk K g.adr w1 h H ∧ RF K g w1 H (setsS asg sl) (setsR ya σ)
  | [], [], w, sl, σ, f, k, r => ⟨w, ExtS.refl _ _, k, f⟩
  | [], _ :: _, w, sl, σ, f, k, r => by simp [RAsg] at r
  | (i, v) :: asg, ya, w, sl, σ, f, k, r => by
    simp only [RAsg] at r
    obtain ⟨y, q, e, r1, r2⟩ := r
    subst e
    have r3 : RAsg K g (w.drop i) H asg q := RAsg.mono drop_sees r2
    obtain ⟨w1, e1, k1, f1⟩ := RF.sets (f.setv (i := i) r1) k.drop r3
    exact ⟨w1, drop_ext.trans e1, k1, f1⟩
end

/-! ### own lists -/
section
variable {K : PySem.W.Frag} {g : Gx} {w w' w1 : Wd} {H H' H1 : Hp} {h h1 : VH} {sl : Sl} {σ : L2.St} {i : Nat} {p : Addr} {o : HO}
def Wd.own (w : Wd) (i : Nat) (p : Addr) : Wd := { w with O := w.O.set i (some p) }
theorem mut_own {a : Addr} : (w.own i p).mut a → w.mut a ∨ a = p := by
  rintro (z | z | z)
  · exact .inl (.inl z)
  · exact .inl (.inr (.inl z))
  · rcases List.mem_or_eq_of_mem_set z with z | z
    · exact .inl (.inr (.inr z))
    · cases z
      exact .inr rfl
theorem own_sees (hp : H p = none) : Sees w H (w.own i p) (upd H p o) where
  keep := fun a u q m => ⟨by rw [upd_ne (ne_of_none q hp)]; exact q, fun z => by
    rcases mut_own z with z | z
    · exact m z
    · subst z
      rw [hp] at q
      cases q⟩
  refs := fun _ _ _ q => q
  len := Nat.le_refl _
theorem own_ext (k : Hk K g.adr w h H) (hp : H p = none) : ExtS w H (w.own i p) (upd H p o) where
  keep := (own_sees hp).keep
  refs := fun _ _ _ q => q
  len := Nat.le_refl _
  P := rfl
  prot := fun a ha => upd_ne fun e => k.live (.inr (.inl ha)) (e ▸ hp)
theorem own_O {n : Nat} {a : Addr} (e : (w.own i p).O[n]? = some (some a)) : (n = i ∧ a = p) ∨ (n ≠ i ∧ w.O[n]? = some (some a)) := by
  unfold Wd.own at e
  rw [List.getElem?_set] at e
  split at e
  · rename_i q
    split at e
    · cases e
      exact .inl ⟨q.symm, rfl⟩
    · cases e
  · rename_i q
    exact .inr ⟨fun z => q z.symm, e⟩
theorem Hk.mkOwn (k : Hk K g.adr w h H) (hp : H p = none) (hd : dat o = true := by rfl) : Hk K g.adr (w.own i p) h (upd H p o) where
  len := k.len
  inj := k.inj
  obj := fun n a hn => by
    obtain ⟨u, h1, h3⟩ := k.obj n a hn
    exact ⟨u, h1, RO.mono (own_sees hp) u a (fun z q => by rw [upd_ne (ne_of_none q hp)]; exact q) h3⟩
  has := k.has
  prot := fun a ha => by
    have old : w.P a ∨ some a ∈ w.O → (upd H p o) a ≠ none ∧ some a ∉ (w.own i p).phi := fun z => by
      obtain ⟨h1, h2⟩ := k.prot a z
      refine ⟨?_, h2⟩
      rw [upd_ne (show a ≠ p from fun e => h1 (by rw [e]; exact hp))]
      exact h1
    rcases ha with z | z
    · exact old (.inl z)
    · rcases List.mem_or_eq_of_mem_set z with z | z
      · exact old (.inr z)
      · cases z
        exact ⟨by rw [upd_same]; simp, fun z => k.live (.inl z) hp⟩
  own := fun a ha z => by
    rcases List.mem_or_eq_of_mem_set z with z | z
    · exact k.own a ha z
    · cases z
      exact k.live (.inr (.inl ha)) hp
  ownI := fun n m a hn hm => by
    rcases own_O hn with ⟨e1, e2⟩ | ⟨e1, e2⟩
    · rcases own_O hm with ⟨e3, e4⟩ | ⟨e3, e4⟩
      · rw [e1, e3]
      · exact absurd hp (e2 ▸ k.live (.inr (.inr (List.mem_of_getElem? e4))))
    · rcases own_O hm with ⟨e3, e4⟩ | ⟨e3, e4⟩
      · exact absurd hp (e4 ▸ k.live (.inr (.inr (List.mem_of_getElem? e2))))
      · exact k.ownI n m a e2 e4
  spc := k.spc.upd hd fun a ne => ⟨id, fun z => (mut_own z).elim id fun e => (ne e).elim⟩
theorem RF.mkOwn (f : RF K g w H sl σ) {xs : List VV} {ys : List V} (hp : H p = none) (r : RVs K g.adr w H xs ys) : RF K g (w.own i p) (upd H p (.lst ys)) (sl.set i (.own xs)) (σ.set i (some (.ref p))) where
  len := by rw [List.length_set, List.length_set]; exact f.len
  lenO := by unfold Wd.own; rw [List.length_set, List.length_set]; exact f.lenO
  val := fun j u q => by
    rw [List.getElem?_set] at q
    by_cases e : i = j
    · subst e
      rw [if_pos rfl] at q
      split at q
      · cases q
      · cases q
    · rw [if_neg e] at q
      obtain ⟨h1, z, h2, h3⟩ := f.val j u q
      refine ⟨?_, z, ?_, RV.mono (own_sees hp) _ _ h3⟩
      · unfold Wd.own
        rw [List.getElem?_set, if_neg e]
        exact h1
      · rw [List.getElem?_set, if_neg e]
        exact h2
  own := fun j zs q => by
    have hl := f.len
    have hO := f.lenO
    rw [List.getElem?_set] at q
    by_cases e : i = j
    · subst e
      rw [if_pos rfl] at q
      by_cases hi : i < sl.length
      · rw [if_pos hi] at q
        cases q
        refine ⟨p, ys, ?_, ?_, upd_same, RVs.mono (own_sees hp) _ _ r⟩
        · unfold Wd.own
          rw [List.getElem?_set, if_pos rfl, if_pos (by omega)]
        · rw [List.getElem?_set, if_pos rfl, if_pos (by omega)]
      · rw [if_neg hi] at q
        cases q
    · rw [if_neg e] at q
      obtain ⟨a, bs, h1, h2, h3, h4⟩ := f.own j zs q
      refine ⟨a, bs, ?_, ?_, ?_, RVs.mono (own_sees hp) _ _ h4⟩
      · unfold Wd.own
        rw [List.getElem?_set, if_neg e]
        exact h1
      · rw [List.getElem?_set, if_neg e]
        exact h2
      · rw [upd_ne (ne_of_none h3 hp)]
        exact h3
  no := fun j q => by
    rw [List.getElem?_set] at q
    by_cases e : i = j
    · subst e
      rw [if_pos rfl] at q
      split at q
      · cases q
      · cases q
    · rw [if_neg e] at q
      unfold Wd.own
      rw [List.getElem?_set, if_neg e]
      exact f.no j q
/-- an own list is written -/
theorem ownset_sees (m : w.mut p) : Sees w H w (upd H p o) where
  keep := fun a u q n => ⟨by rw [upd_ne (show a ≠ p from fun e => n (by rw [e]; exact m))]; exact q, n⟩
  refs := fun _ _ _ q => q
  len := Nat.le_refl _
theorem ownset_ext (k : Hk K g.adr w h H) (ho : w.O[i]? = some (some p)) : ExtS w H w (upd H p o) where
  keep := (ownset_sees (.inr (.inr (List.mem_of_getElem? ho)))).keep
  refs := fun _ _ _ q => q
  len := Nat.le_refl _
  P := rfl
  prot := fun a ha => upd_ne fun e => k.own a ha (e ▸ List.mem_of_getElem? ho)
theorem Hk.ownset (k : Hk K g.adr w h H) (ho : w.O[i]? = some (some p)) (hd : dat o = true := by rfl) : Hk K g.adr w h (upd H p o) where
  len := k.len
  inj := k.inj
  obj := fun n a hn => by
    obtain ⟨u, h1, h3⟩ := k.obj n a hn
    have ne : a ≠ p := fun e => (k.prot p (.inr (List.mem_of_getElem? ho))).2 (e ▸ List.mem_of_getElem? hn)
    exact ⟨u, h1, RO.mono (ownset_sees (.inr (.inr (List.mem_of_getElem? ho)))) u a (fun z q => by rw [upd_ne ne]; exact q) h3⟩
  has := k.has
  prot := fun a ha => by
    obtain ⟨h1, h2⟩ := k.prot a ha
    refine ⟨?_, h2⟩
    by_cases e : a = p
    · rw [e, upd_same]
      simp
    · rw [upd_ne e]
      exact h1
  own := k.own
  ownI := k.ownI
  spc := k.spc.put hd
theorem RF.ownset (f : RF K g w H sl σ) (k : Hk K g.adr w h H) {xs : List VV} {ys : List V} (ho : w.O[i]? = some (some p)) (hs : σ[i]? = some (some (.ref p))) (r : RVs K g.adr w H xs ys) : RF K g w (upd H p (.lst ys)) (sl.set i (.own xs)) σ where
  len := by rw [List.length_set]; exact f.len
  lenO := by rw [List.length_set]; exact f.lenO
  val := fun j u q => by
    rw [List.getElem?_set] at q
    by_cases e : i = j
    · subst e
      rw [if_pos rfl] at q
      split at q
      · cases q
      · cases q
    · rw [if_neg e] at q
      obtain ⟨h1, z, h2, h3⟩ := f.val j u q
      exact ⟨h1, z, h2, RV.mono (ownset_sees (.inr (.inr (List.mem_of_getElem? ho)))) _ _ h3⟩
  own := fun j zs q => by
    have se : Sees w H w (upd H p (.lst ys)) := ownset_sees (.inr (.inr (List.mem_of_getElem? ho)))
    rw [List.getElem?_set] at q
    by_cases e : i = j
    · subst e
      rw [if_pos rfl] at q
      split at q
      · cases q
        exact ⟨p, ys, ho, hs, upd_same, RVs.mono se _ _ r⟩
      · cases q
    · rw [if_neg e] at q
      obtain ⟨a, bs, h1, h2, h3, h4⟩ := f.own j zs q
      exact ⟨a, bs, h1, h2, by rw [upd_ne (show a ≠ p from fun z => e (k.ownI i j p ho (by rw [← z]; exact h1)))]; exact h3, RVs.mono se _ _ h4⟩
  no := fun j q => by
    rw [List.getElem?_set] at q
    by_cases e : i = j
    · subst e
      rw [if_pos rfl] at q
      split at q
      · cases q
      · cases q
    · rw [if_neg e] at q
      exact f.no j q
end

/-! ### rules -/
section
variable {X : Cx} {g : Gx} {W : WX} {st : Stmt} {rest body : List Stmt} {m m2 : MS} {e : Expr} {me : ME} {es : List Expr} {ma : MA} {pos pos' : Pos} {x y z : Str} {i j l : Nat}
def setM (i : Nat) (a : ME) : MS := fun sl h => (a (view sl) h).toS sl fun v h1 => .nx (sl.set i (.val v)) h1
theorem setM_imp {D : Ends} {σ : L2.St} {H : Hp} (t : tS X.K g (setM i me) W D σ H) : tAsg (tG X.K g (relV X.K g) me W) (gName i) D σ H := by
  obtain ⟨w, sl, h, f, k, p⟩ := t
  exact seqS f k p fun w1 H1 h1 v y e1 f1 k1 r1 p1 => p1 (w1.drop i) H1 (σ.set i (some y)) drop_ext k1.drop (f1.setv r1)
theorem rs_set (i : Nat) (hN : X.N.Nodup) (he : RE X g W e me) (hi : X.N[i]? = some x := by rfl) (hx : Loc X.env.scope x := by first | exact Or.inl rfl | exact Or.inr rfl) (hs : swapsWith e (some (.Name x pos')) pos.line X.env = pure false := by rfl)
    (hf : X.fn x = true ∨ X.env.scope.names.lookup x = some .local := by first | exact .inl rfl | exact .inr rfl) : RS X g W (.Assign [.Name x pos'] e pos) (setM i me) :=
  ps_imp (ps_set hN hi hx he hs hf) fun D σ H t => setM_imp t
/-- reads own lists too; what comes holds no list -/
def setF (i : Nat) (a : ME) : MS := fun sl h => (iceM flat a (viewF sl) h).nox.toS sl fun v h1 => .nx (sl.set i (.val v)) h1
theorem flat_rel {K : PySem.W.Frag} (w w1 : Wd) (H1 : Hp) (v : VV) (y : V) (no : ∀ a ys, H1 a = some (.tup ys) → ¬ w1.mut a → ¬ (w1.thaw w).mut a) (fl : flat v = true) (r : relV K g w1 H1 v y) : relV K g (w1.thaw w) H1 v y := flat_thaw no v y fl r
theorem rs_setF (i : Nat) (hN : X.N.Nodup) (he : RE X g W e me) (hi : X.N[i]? = some x := by rfl) (hx : Loc X.env.scope x := by first | exact Or.inl rfl | exact Or.inr rfl) (hs : swapsWith e (some (.Name x pos')) pos.line X.env = pure false := by rfl)
    (hf : X.fn x = true ∨ X.env.scope.names.lookup x = some .local := by first | exact .inl rfl | exact .inr rfl) : RS X g W (.Assign [.Name x pos'] e pos) (setF i me) :=
  ps_imp (ps_set hN hi hx he hs hf) fun D σ H ⟨w, sl, h, f, k, p⟩ => seqF flat_rel f k p fun w1 H1 h1 v y e1 f1 k1 r1 p1 => p1 (w1.drop i) H1 (σ.set i (some y)) drop_ext k1.drop (f1.setv r1)
/-- name = [..], the name's own list -/
def ownM (i : Nat) (a : MA) : MS := fun sl h => (a (view sl) h).toS sl fun vs h1 => if fits vs.length then .nx (sl.set i (.own vs)) h1 else .bad
theorem rs_own (i : Nat) (hN : X.N.Nodup) (ha : RA X g W es ma) (hi : X.N[i]? = some x := by rfl) (hx : Loc X.env.scope x := by first | exact Or.inl rfl | exact Or.inr rfl)
    (hf : X.fn x = true ∨ X.env.scope.names.lookup x = some .local := by first | exact .inl rfl | exact .inr rfl) {pl pn : Pos} (hs : swapsWith (.List es pl) (some (.Name x pn)) pos.line X.env = pure false := by rfl) : RS X g W (.Assign [.Name x pn] (.List es pl) pos) (ownM i ma) :=
  ps_imp (ps_set hN hi hx (pe_lst ha) hs hf) fun D σ H ⟨w, sl, h, f, k, p⟩ => seqS f k p fun w1 H1 h1 v y e1 f1 k1 r1 p1 => by
    split at p1
    · rename_i hf
      exact ⟨by rw [← RVs.length r1]; exact fits_le hf, fun q hq => p1 _ _ _ (own_ext k1 hq) (k1.mkOwn hq) (f1.mkOwn hq r1)⟩
    · exact p1.elim
end
end Mv
set_option Elab.async false
set_option linter.all false
set_option maxRecDepth 100000
/-! Mv, part H: statements that write, loops, defs, calls. -/
namespace Mv
open PySem PySem.Spec PyProof.Rows L2

/-! ### objects of the small heap, written -/
section
variable {K : PySem.W.Frag} {g : Gx} {w : Wd} {H : Hp} {h : VH} {sl : Sl} {σ : L2.St} {n : Nat} {a : Addr} {o : HO}
theorem refset_ext (k : Hk K g.adr w h H) (hn : w.phi[n]? = some (some a)) : ExtS w H w (upd H a o) where
  keep := (ownset_sees (.inl (List.mem_of_getElem? hn))).keep
  refs := fun _ _ _ q => q
  len := Nat.le_refl _
  P := rfl
  prot := fun b hb => upd_ne fun e => (k.prot b (.inl hb)).2 (by rw [e]; exact List.mem_of_getElem? hn)
theorem Hk.refset (k : Hk K g.adr w h H) (hn : w.phi[n]? = some (some a)) {xs : List VV} {ys : List V} (r : RVs K g.adr w H xs ys) : Hk K g.adr w (h.set n (.lst xs)) (upd H a (.lst ys)) where
  len := by rw [List.length_set]; exact k.len
  inj := k.inj
  obj := fun m b hm => by
    have se : Sees w H w (upd H a (.lst ys)) := ownset_sees (.inl (List.mem_of_getElem? hn))
    obtain ⟨u, h1, h3⟩ := k.obj m b hm
    by_cases e : m = n
    · subst e
      rw [hn] at hm
      cases hm
      refine ⟨.lst xs, ?_, ys, upd_same, RVs.mono se _ _ r⟩
      rw [List.getElem?_set_self (List.getElem?_eq_some_iff.mp h1).1]
    · refine ⟨u, by rw [List.getElem?_set_ne (Ne.symm e)]; exact h1, RO.mono se u b (fun z q => ?_) h3⟩
      rw [upd_ne (show b ≠ a from fun z => e (k.inj m n a (by rw [← z]; exact hm) hn))]
      exact q
  has := fun m u hm hu => by
    by_cases e : m = n
    · subst e
      exact ⟨a, hn⟩
    · rw [List.getElem?_set_ne (Ne.symm e)] at hm
      exact k.has m u hm hu
  prot := fun b hb => by
    obtain ⟨h1, h2⟩ := k.prot b hb
    refine ⟨?_, h2⟩
    by_cases e : b = a
    · rw [e, upd_same]
      simp
    · rw [upd_ne e]
      exact h1
  own := k.own
  ownI := k.ownI
  spc := k.spc.put rfl
theorem RF.sees (f : RF K g w H sl σ) (e : Sees w H w (upd H a o)) (hO : ∀ p, some p ∈ w.O → p ≠ a) : RF K g w (upd H a o) sl σ where
  len := f.len
  lenO := f.lenO
  val := fun j u q => by
    obtain ⟨h1, z, h2, h3⟩ := f.val j u q
    exact ⟨h1, z, h2, RV.mono e _ _ h3⟩
  own := fun j zs q => by
    obtain ⟨p, bs, h1, h2, h3, h4⟩ := f.own j zs q
    exact ⟨p, bs, h1, h2, by rw [upd_ne (hO p (List.mem_of_getElem? h1))]; exact h3, RVs.mono e _ _ h4⟩
  no := f.no
theorem RF.refset (f : RF K g w H sl σ) (k : Hk K g.adr w h H) (hn : w.phi[n]? = some (some a)) : RF K g w (upd H a o) sl σ :=
  f.sees (ownset_sees (.inl (List.mem_of_getElem? hn))) fun p hp e => (k.prot p (.inr hp)).2 (by rw [e]; exact List.mem_of_getElem? hn)
end

section
variable {X : Cx} {g : Gx} {W : WX} {st : Stmt} {rest body : List Stmt} {m mb m2 : MS} {e o e2 : Expr} {me mo mi : ME} {es : List Expr} {ma : MA} {pos pos' : Pos} {x y z : Str} {i j l : Nat}
/-- x.append(e) on an own list -/
def appM (i : Nat) (a : MA) : MS := fun sl h => match sl[i]? with
  | some (.own xs) => (a (view sl) h).toS sl fun vs h1 => match vs with
    | [v] => if fits (xs.length + 1) then .nx (sl.set i (.own (xs ++ [v]))) h1 else .bad
    | _ => .bad
  | _ => .bad
theorem rs_app (i : Nat) {apos cpos : Pos} {px : Pos} (ha : RA X g W [e] ma) (hi : X.N[i]? = some x := by rfl) (hv : Vis X.env.scope x := by first | exact Or.inl rfl | exact Or.inr (Or.inl rfl) | exact Or.inr (Or.inr rfl)) (hd : (x == ("__debug__" : Str)) = false := by decide)
    (hcd : (x == ("__classdict__" : Str)) = false := by decide) (hbase : attributeBase (.Name x px) "append" X.env (eval (.Name x px) X.env) = eval (.Name x px) X.env := by rfl)
    (hfew : ((backTo cpos (starEach [e] X.env)).all (fun x => !x.1) && (backToKw cpos (keywordEach [] X.env)).all (fun x => x.1.isSome) && decide (([e] : List Expr).length + ([] : List Keyword).length + (if ([] : List Keyword).isEmpty then 0 else 1) < 30)) = true := by rfl)
    (hline : (apos.endLine == cpos.line) = true := by rfl) (hst : starEach [e] X.env = (false, eval e X.env) :: starEach [] X.env := by rfl) (hplain : (backTo cpos (starEach [] X.env)).any (·.1) = false := by rfl)
    (hs : swapsWith (.Call (.Attribute (.Name x px) "append" apos) [e] [] cpos) none pos.line X.env = pure false := by rfl) :
    RS X g W (.Expr (.Call (.Attribute (.Name x px) "append" apos) [e] [] cpos) pos) (appM i ma) :=
  ps_imp (ps_expr (pe_bm PySem.F.plainAttrs_list PySem.F.slot_list_append PySem.F.type_list_append (fun pins s σ H x xs v us Q => mt_append pins s σ H x xs v us Q) (pe_var hi hv hd hcd) ha hbase hfew hline hst hplain) hs) fun D σ H ⟨w, sl, h, f, k, p⟩ => by
    unfold appM at p
    split at p
    · rename_i xs q
      obtain ⟨a, ys, h1, h2, h3, h4⟩ := f.own i xs q
      refine ⟨_, h2, .inl ⟨rfl, ys, SqL.of h3⟩, ?_⟩
      refine seqS f k p fun w1 H1 h1 vs us e1 f1 k1 r1 p1 => ?_
      split at p1
      · rename_i v
        split at p1
        · rename_i hf
          simp only [relVs, RVs] at r1
          obtain ⟨u, _, e2, r1, rfl⟩ := r1
          obtain ⟨b, bs, h5, h6, h7, h8⟩ := f1.own i xs q
          rw [h2] at h6
          cases h6
          refine ⟨a, bs, u, rfl, e2, h7, ?_, ?_⟩
          · have := fits_le hf
            rw [← h8.length]
            omega
          · refine p1 w1 _ σ (ownset_ext k1 h5) (k1.ownset h5) (f1.ownset k1 h5 h2 (h8.app ?_))
            simp only [RVs]
            exact ⟨_, _, rfl, r1, rfl⟩
        · exact p1.elim
      · exact p1.elim
    · exact p.elim
/-- the same, the argument seen with the own lists standing -/
def appF (i : Nat) (a : MA) : MS := fun sl h => match sl[i]? with
  | some (.own xs) => (iceM flats a (viewF sl) h).nox.toS sl fun vs h1 => match vs with
    | [v] => if fits (xs.length + 1) then .nx (sl.set i (.own (xs ++ [v]))) h1 else .bad
    | _ => .bad
  | _ => .bad
theorem flats_rel {K : PySem.W.Frag} (w w1 : Wd) (H1 : Hp) (v : List VV) (y : List V) (no : ∀ a ys, H1 a = some (.tup ys) → ¬ w1.mut a → ¬ (w1.thaw w).mut a) (fl : flats v = true) (r : relVs K g w1 H1 v y) : relVs K g (w1.thaw w) H1 v y := flats_thaw no v y fl r
theorem rs_appF (i : Nat) {apos cpos : Pos} {px : Pos} (ha : RA X g W [e] ma) (hi : X.N[i]? = some x := by rfl) (hv : Vis X.env.scope x := by first | exact Or.inl rfl | exact Or.inr (Or.inl rfl) | exact Or.inr (Or.inr rfl)) (hd : (x == ("__debug__" : Str)) = false := by decide)
    (hcd : (x == ("__classdict__" : Str)) = false := by decide) (hbase : attributeBase (.Name x px) "append" X.env (eval (.Name x px) X.env) = eval (.Name x px) X.env := by rfl)
    (hfew : ((backTo cpos (starEach [e] X.env)).all (fun x => !x.1) && (backToKw cpos (keywordEach [] X.env)).all (fun x => x.1.isSome) && decide (([e] : List Expr).length + ([] : List Keyword).length + (if ([] : List Keyword).isEmpty then 0 else 1) < 30)) = true := by rfl)
    (hline : (apos.endLine == cpos.line) = true := by rfl) (hst : starEach [e] X.env = (false, eval e X.env) :: starEach [] X.env := by rfl) (hplain : (backTo cpos (starEach [] X.env)).any (·.1) = false := by rfl)
    (hs : swapsWith (.Call (.Attribute (.Name x px) "append" apos) [e] [] cpos) none pos.line X.env = pure false := by rfl) :
    RS X g W (.Expr (.Call (.Attribute (.Name x px) "append" apos) [e] [] cpos) pos) (appF i ma) :=
  ps_imp (ps_expr (pe_bm PySem.F.plainAttrs_list PySem.F.slot_list_append PySem.F.type_list_append (fun pins s σ H x xs v us Q => mt_append pins s σ H x xs v us Q) (pe_var hi hv hd hcd) ha hbase hfew hline hst hplain) hs) fun D σ H ⟨w, sl, h, f, k, p⟩ => by
    unfold appF at p
    split at p
    · rename_i xs q
      obtain ⟨a, ys, h1, h2, h3, h4⟩ := f.own i xs q
      refine ⟨_, h2, .inl ⟨rfl, ys, SqL.of h3⟩, ?_⟩
      refine seqF flats_rel f k p fun w1 H1 h1 vs us e1 f1 k1 r1 p1 => ?_
      split at p1
      · rename_i v
        split at p1
        · rename_i hf
          simp only [relVs, RVs] at r1
          obtain ⟨u, _, e2, r1, rfl⟩ := r1
          obtain ⟨b, bs, h5, h6, h7, h8⟩ := f1.own i xs q
          rw [h2] at h6
          cases h6
          refine ⟨a, bs, u, rfl, e2, h7, ?_, ?_⟩
          · have := fits_le hf
            rw [← h8.length]
            omega
          · refine p1 w1 _ σ (ownset_ext k1 h5) (k1.ownset h5) (f1.ownset k1 h5 h2 (h8.app ?_))
            simp only [RVs]
            exact ⟨_, _, rfl, r1, rfl⟩
        · exact p1.elim
      · exact p1.elim
    · exact p.elim
end
section
variable {X : Cx} {g : Gx} {W : WX} {st : Stmt} {rest body : List Stmt} {m mb m2 : MS} {e o e2 : Expr} {me mo mi : ME} {es : List Expr} {ma : MA} {pos pos' : Pos} {x y z : Str} {i j l : Nat}
theorem seqF0 {K : PySem.W.Frag} {w : Wd} {H : Hp} {σ : L2.St} {sl : Sl} {h : VH} {D : Ends} {α β : Type} {R : Rel α β} {T : β → Hp → Prop} {fl : α → Bool} {m : Sv → VH → Out α} {k : α → VH → SOut}
    (f : RF K g w H sl σ) (hk : Hk K g.adr w h H) (p : PostS K g w H D W ((iceM fl m (viewF sl) h).nox.toS sl k))
    (i : ∀ w1 H1 h1 v y, ExtS w H (w1.thaw w) H1 → RF K g (w1.thaw w) H1 sl σ → Hk K g.adr (w1.thaw w) h1 H1 → (∀ a ys, H1 a = some (.tup ys) → ¬ w1.mut a → ¬ (w1.thaw w).mut a) → fl v = true → R w1 H1 v y → PostS K g (w1.thaw w) H1 D W (k v h1) → T y H1) : tG K g R m W σ H T := by
  refine ⟨w.ice, viewF sl, h, f.rslF hk, hk.ice, ?_⟩
  unfold iceM at p
  cases e : m (viewF sl) h with
  | ok v h1 =>
    rw [e] at p
    simp only [Out.bind] at p
    by_cases c : (fl v && h1.all flatO) = true
    · rw [if_pos c] at p
      obtain ⟨c1, c2⟩ := Bool.and_eq_true_iff.mp c
      intro w1 H1 y e1 k1 r
      have e2 := thaw_ext hk e1 f.ow
      exact i w1 H1 h1 v y e2.toS (f.mono e2) (thaw_hk hk k1 e1 f.ow c2) (thaw_no hk e1 f.ow) c1 r (PostS.mono e2.toS p)
    · rw [if_neg c] at p
      exact p.elim
  | exc x h1 =>
    rw [e] at p
    exact p.elim
  | bad =>
    rw [e] at p
    exact p.elim
/-- x.extend([..]) on an own list -/
def flX (vs : List VV) : Bool := match vs with
  | [.lst zs] => flats zs
  | _ => false
def extF (i : Nat) (a : MA) : MS := fun sl h => match sl[i]? with
  | some (.own xs) => (iceM flX a (viewF sl) h).nox.toS sl fun vs h1 => match vs with
    | [.lst zs] => if fits (xs.length + zs.length) then .nx (sl.set i (.own (xs ++ zs))) h1 else .bad
    | _ => .bad
  | _ => .bad
theorem rs_ext (i : Nat) {apos cpos : Pos} {px : Pos} (ha : RA X g W [e] ma) (hi : X.N[i]? = some x := by rfl) (hv : Vis X.env.scope x := by first | exact Or.inl rfl | exact Or.inr (Or.inl rfl) | exact Or.inr (Or.inr rfl)) (hd : (x == ("__debug__" : Str)) = false := by decide)
    (hcd : (x == ("__classdict__" : Str)) = false := by decide) (hbase : attributeBase (.Name x px) "extend" X.env (eval (.Name x px) X.env) = eval (.Name x px) X.env := by rfl)
    (hfew : ((backTo cpos (starEach [e] X.env)).all (fun x => !x.1) && (backToKw cpos (keywordEach [] X.env)).all (fun x => x.1.isSome) && decide (([e] : List Expr).length + ([] : List Keyword).length + (if ([] : List Keyword).isEmpty then 0 else 1) < 30)) = true := by rfl)
    (hline : (apos.endLine == cpos.line) = true := by rfl) (hst : starEach [e] X.env = (false, eval e X.env) :: starEach [] X.env := by rfl) (hplain : (backTo cpos (starEach [] X.env)).any (·.1) = false := by rfl)
    (hs : swapsWith (.Call (.Attribute (.Name x px) "extend" apos) [e] [] cpos) none pos.line X.env = pure false := by rfl) :
    RS X g W (.Expr (.Call (.Attribute (.Name x px) "extend" apos) [e] [] cpos) pos) (extF i ma) :=
  ps_imp (ps_expr (pe_bm PySem.F.plainAttrs_list PySem.F.slot_list_extend PySem.F.type_list_extend (fun pins s σ H x xs v us Q => mt_extend pins s σ H x xs v us Q) (pe_var hi hv hd hcd) ha hbase hfew hline hst hplain) hs) fun D σ H ⟨w, sl, h, f, k, p⟩ => by
    unfold extF at p
    split at p
    · rename_i xs q
      obtain ⟨a, ys, h1, h2, h3, h4⟩ := f.own i xs q
      refine ⟨_, h2, .inl ⟨rfl, ys, SqL.of h3⟩, ?_⟩
      refine seqF0 f k p fun w1 H1 h1 vs us e1 f1 k1 no fl r1 p1 => ?_
      split at p1
      · rename_i zs
        split at p1
        · rename_i hf
          simp only [relVs, RVs, RV] at r1
          obtain ⟨_, _, e2, ⟨b, us, rfl, hb, r1⟩, rfl⟩ := r1
          simp only [flX] at fl
          have r2 := flats_thaw no zs us fl r1
          obtain ⟨c, bs, h5, h6, h7, h8⟩ := f1.own i xs q
          rw [h2] at h6
          cases h6
          refine ⟨a, b, bs, us, rfl, e2, h7, hb.1, ?_, ?_⟩
          · rw [← h8.length, ← r2.length]
            exact fits_le hf
          · exact p1 _ _ σ (ownset_ext k1 h5) (k1.ownset h5) (f1.ownset k1 h5 h2 (h8.app r2))
        · exact p1.elim
      · exact p1.elim
    · exact p.elim
/-- o[i] = v, an object of the small heap -/
def setIxM (mo mi me : ME) : MS := fun sl h => (me (view sl) h).toS sl fun v h1 => (mo (view sl) h1).toS sl fun o h2 => (mi (view sl) h2).toS sl fun i h3 => match o, i with
  | .ref n, .int k => (match h3[n]? with
    | some (.lst xs) => (match ixN xs.length k with
      | some j => .nx sl (h3.set n (.lst (xs.set j v)))
      | none => .bad)
    | _ => .bad)
  | _, _ => .bad
theorem rs_setIx {ip : Pos} (he : RE X g W e me) (ho : RE X g W o mo) (hi : RE X g W e2 mi)
    (ha : ∀ v, assign (.Subscript o e2 ip) X.env v = (do
      let ov ← holding [v] (eval o X.env)
      let iv ← holding [v, ov] (eval e2 X.env)
      standAt ip
      holding [v, ov, iv] (setItem ov iv v)
      release [v, ov, iv] []) := by intro _; rfl)
    (hs : swapsWithSole [.Subscript o e2 ip] e pos.line X.env = pure false := by rfl) (hw : swappedStores [.Subscript o e2 ip] e X.env = pure none := by rfl)
    (h1 : (assignEach [.Subscript o e2 ip] X.env).map (·.2) = [assign (.Subscript o e2 ip) X.env] := by rfl) : RS X g W (.Assign [.Subscript o e2 ip] e pos) (setIxM mo mi me) :=
  ps_imp (ps_asg he (pg_sub ho hi set_list ha) hs hw h1) fun D σ H ⟨w, sl, h, f, k, p⟩ => by
    refine seqS f k p fun w1 H1 h1 v y e1 f1 k1 r1 p1 => ?_
    refine seqS f1 k1 p1 fun w2 H2 h2 v2 y2 e2 f2 k2 r2 p2 => ?_
    refine seqS f2 k2 p2 fun w3 H3 h3 v3 y3 e3 f3 k3 r3 p3 => ?_
    have r1' := RV.mono (e2.trans e3).sees _ _ r1
    have r2' := RV.mono e3.sees _ _ r2
    split at p3
    · rename_i n kk
      split at p3
      · rename_i xs eh
        split at p3
        · rename_i jj ej
          obtain ⟨a, ys, rfl, hn, ha, rx⟩ := ref_get k3 r2' eh
          have e4 : y3 = .int kk := by simpa only [relV, RV] using r3
          refine ⟨a, ys, kk, jj, rfl, e4, ha, by rw [← rx.length]; exact ej, ?_⟩
          exact p3 w3 _ σ (refset_ext k3 hn) (k3.refset hn (RVs.set jj rx r1')) (f3.refset k3 hn)
        · exact p3.elim
      · exact p3.elim
    · exact p3.elim
/-- x[i] = v on an own list -/
def setIxO (l : Nat) (mi me : ME) : MS := fun sl h => match sl[l]? with
  | some (.own xs) => (me (view sl) h).toS sl fun v h1 => (mi (view sl) h1).toS sl fun i h3 => match i with
    | .int k => (match ixN xs.length k with
      | some j => .nx (sl.set l (.own (xs.set j v))) h3
      | none => .bad)
    | _ => .bad
  | _ => .bad
theorem rs_setIxO (l : Nat) {ip px : Pos} (he : RE X g W e me) (hi : RE X g W e2 mi) (hl : X.N[l]? = some x := by rfl) (hv : Vis X.env.scope x := by first | exact Or.inl rfl | exact Or.inr (Or.inl rfl) | exact Or.inr (Or.inr rfl)) (hd : (x == ("__debug__" : Str)) = false := by decide)
    (hcd : (x == ("__classdict__" : Str)) = false := by decide) 
    (ha : ∀ v, assign (.Subscript (.Name x px) e2 ip) X.env v = (do
      let ov ← holding [v] (eval (.Name x px) X.env)
      let iv ← holding [v, ov] (eval e2 X.env)
      standAt ip
      holding [v, ov, iv] (setItem ov iv v)
      release [v, ov, iv] []) := by intro _; rfl)
    (hs : swapsWithSole [.Subscript (.Name x px) e2 ip] e pos.line X.env = pure false := by rfl) (hw : swappedStores [.Subscript (.Name x px) e2 ip] e X.env = pure none := by rfl)
    (h1 : (assignEach [.Subscript (.Name x px) e2 ip] X.env).map (·.2) = [assign (.Subscript (.Name x px) e2 ip) X.env] := by rfl) : RS X g W (.Assign [.Subscript (.Name x px) e2 ip] e pos) (setIxO l mi me) :=
  ps_imp (ps_asg he (pg_sub (pe_var hl hv hd hcd) hi set_list ha) hs hw h1) fun D σ H ⟨w, sl, h, f, k, p⟩ => by
    unfold setIxO at p
    split at p
    · rename_i xs q
      refine seqS f k p fun w1 H1 h1 v y e1 f1 k1 r1 p1 => ?_
      obtain ⟨a, ys, h1, h2, h3, h4⟩ := f1.own l xs q
      refine ⟨_, h2, ?_⟩
      refine seqS f1 k1 p1 fun w3 H3 h3 v3 y3 e3 f3 k3 r3 p3 => ?_
      split at p3
      · rename_i kk
        split at p3
        · rename_i jj ej
          obtain ⟨b, bs, h5, h6, h7, h8⟩ := f3.own l xs q
          rw [h2] at h6
          cases h6
          have e4 : y3 = .int kk := by simpa only [relV, RV] using r3
          refine ⟨a, bs, kk, jj, rfl, e4, h7, by rw [← h8.length]; exact ej, ?_⟩
          exact p3 w3 _ σ (ownset_ext k3 h5) (k3.ownset h5) (f3.ownset k3 h5 h2 (RVs.set jj h8 (RV.mono e3.sees _ _ r1)))
        · exact p3.elim
      · exact p3.elim
    · exact p.elim
/-- name op= e, ints -/
def augM (i : Nat) (f : Int → Int → Int) (a : ME) : MS := fun sl h => match sl[i]? with
  | some (.val (.int m)) => (a (view sl) h).toS sl fun v h1 => match v with
    | .int n => .nx (sl.set i (.val (.int (f m n)))) h1
    | _ => .bad
  | _ => .bad
theorem rs_aug (i : Nat) {op : Operator} {ff : Int → Int → Int} (ho : PIp X op (ipI ff)) (hN : X.N.Nodup) (he : RE X g W e me) (hi : X.N[i]? = some x := by rfl) (hx : Loc X.env.scope x := by first | exact Or.inl rfl | exact Or.inr rfl)
    (hf : X.fn x = true ∨ X.env.scope.names.lookup x = some .local := by first | exact .inl rfl | exact .inr rfl) : RS X g W (.AugAssign (.Name x pos') op e pos) (augM i ff me) :=
  ps_imp (ps_aug hN hi hx he ho hf) fun D σ H ⟨w, sl, h, f, k, p⟩ => by
    unfold augM at p
    split at p
    · rename_i m q
      obtain ⟨_, y, h2, h3⟩ := f.val i _ q
      refine ⟨y, h2, ?_⟩
      refine seqS f k p fun w1 H1 h1 v z e1 f1 k1 r1 p1 => ?_
      split at p1
      · rename_i n
        have e2 : y = .int m := by simpa only [RV] using h3
        have e3 : z = .int n := by simpa only [relV, RV] using r1
        exact ⟨m, n, e2, e3, p1 (w1.drop i) H1 _ drop_ext k1.drop (f1.setv (by simp only [RV]))⟩
      · exact p1.elim
    · exact p.elim
/-- a, b = x, y -/
def parM (i j : Nat) (a : MA) : MS := fun sl h => (a (view sl) h).toS sl fun vs h1 => match vs with
  | [v, u] => .nx ((sl.set i (.val v)).set j (.val u)) h1
  | _ => .bad
theorem rs_par (i j : Nat) {a b : Expr} {px py pt : Pos} {kt k2 pt2} (hc : X.calm = true) (hN : X.N.Nodup) (ha : RA X g W [a, b] ma) (hi : X.N[i]? = some x := by rfl) (hj : X.N[j]? = some y := by rfl) (hij : i ≠ j := by decide)
    (hx : X.env.scope.names.lookup x = some .local := by rfl) (hy : X.env.scope.names.lookup y = some .local := by rfl)
    (hw : swappedStores [.Tuple [.Name x px, .Name y py] kt pt] (.Tuple [a, b] k2 pt2) X.env = pure (some [x, y]) := by rfl)
    (hs : swapsWithSole [.Tuple [.Name x px, .Name y py] kt pt] (.Tuple [a, b] k2 pt2) pos.line X.env = pure false := by rfl) :
    RS X g W (.Assign [.Tuple [.Name x px, .Name y py] kt pt] (.Tuple [a, b] k2 pt2) pos) (parM i j ma) :=
  ps_imp (ps_par hc hN hi hj hij hx hy ha hw hs) fun D σ H ⟨w, sl, h, f, k, p⟩ => by
    refine seqS f k p fun w1 H1 h1 vs us e1 f1 k1 r1 p1 => ?_
    split at p1
    · rename_i v u
      simp only [relVs, RVs] at r1
      obtain ⟨y1, _, rfl, r1, y2, _, rfl, r2, rfl⟩ := r1
      exact ⟨y1, y2, rfl, p1 ((w1.drop i).drop j) H1 _ (drop_ext.trans drop_ext) k1.drop.drop ((f1.setv r1).setv (RV.mono drop_sees _ _ r2))⟩
    · exact p1.elim
/-- a, b, c = x, y, z -/
def par3M (i j l : Nat) (a : MA) : MS := fun sl h => (a (view sl) h).toS sl fun vs h1 => match vs with
  | [v, u, t] => .nx (((sl.set i (.val v)).set j (.val u)).set l (.val t)) h1
  | _ => .bad
theorem rs_par3 (i j l : Nat) {a b c : Expr} {px py pz pt : Pos} {kt k2 pt2} (hc : X.calm = true) (hN : X.N.Nodup) (ha : RA X g W [a, b, c] ma) (hi : X.N[i]? = some x := by rfl) (hj : X.N[j]? = some y := by rfl) (hl : X.N[l]? = some z := by rfl) (hij : i ≠ j := by decide) (hil : i ≠ l := by decide) (hjl : j ≠ l := by decide)
    (hx : X.env.scope.names.lookup x = some .local := by rfl) (hy : X.env.scope.names.lookup y = some .local := by rfl) (hz : X.env.scope.names.lookup z = some .local := by rfl)
    (hw : swappedStores [.Tuple [.Name x px, .Name y py, .Name z pz] kt pt] (.Tuple [a, b, c] k2 pt2) X.env = pure (some [x, y, z]) := by rfl)
    (hs : swapsWithSole [.Tuple [.Name x px, .Name y py, .Name z pz] kt pt] (.Tuple [a, b, c] k2 pt2) pos.line X.env = pure false := by rfl) :
    RS X g W (.Assign [.Tuple [.Name x px, .Name y py, .Name z pz] kt pt] (.Tuple [a, b, c] k2 pt2) pos) (par3M i j l ma) :=
  ps_imp (ps_par3 hc hN hi hj hl hij hil hjl hx hy hz ha hw hs) fun D σ H ⟨w, sl, h, f, k, p⟩ => by
    refine seqS f k p fun w1 H1 h1 vs us e1 f1 k1 r1 p1 => ?_
    split at p1
    · rename_i v u t
      simp only [relVs, RVs] at r1
      obtain ⟨y1, _, rfl, r1, y2, _, rfl, r2, y3, _, rfl, r3, rfl⟩ := r1
      exact ⟨y1, y2, y3, rfl, p1 (((w1.drop i).drop j).drop l) H1 _ ((drop_ext.trans drop_ext).trans drop_ext) k1.drop.drop.drop (((f1.setv r1).setv (RV.mono drop_sees _ _ r2)).setv (RV.mono drop_sees _ _ (RV.mono drop_sees _ _ r3)))⟩
    · exact p1.elim
/-- target = e -/
def asgM (mg : MG) (a : ME) : MS := fun sl h => (a (view sl) h).toS sl fun v h1 => match mg v with
  | some asg => .nx (setsS asg sl) h1
  | none => .bad
theorem rs_asg {tg : Expr} {mg : MG} (he : RE X g W e me) (hg : RG X g tg mg) (hs : swapsWithSole [tg] e pos.line X.env = pure false := by rfl) (hw : swappedStores [tg] e X.env = pure none := by rfl)
    (h1 : (assignEach [tg] X.env).map (·.2) = [assign tg X.env] := by rfl) : RS X g W (.Assign [tg] e pos) (asgM mg me) :=
  ps_imp (ps_asg he hg hs hw h1) fun D σ H ⟨w, sl, h, f, k, p⟩ => by
    refine seqS f k p fun w1 H1 h1 v y e1 f1 k1 r1 p1 => ?_
    split at p1
    · rename_i asg q
      refine ⟨w1, h1, v, asg, k1, r1, q, fun ya ra => ?_⟩
      obtain ⟨w2, e2, k2, f2⟩ := RF.sets f1 k1 ra
      exact p1 w2 H1 _ e2 k2 f2
    · exact p1.elim

/-! ### loops -/
def forGo (mg : MG) (body : MS) : List VV → MS
  | [], sl, h => .nx sl h
  | v :: vs, sl, h => match mg v with
    | none => .bad
    | some asg => match body (setsS asg sl) h with
      | .nx sl1 h1 => forGo mg body vs sl1 h1
      | .ct sl1 h1 => forGo mg body vs sl1 h1
      | .bk sl1 h1 => .nx sl1 h1
      | .rt v h1 => .rt v h1
      | .exc x sl1 h1 => .exc x sl1 h1
      | .bad => .bad
def forM (mi : MI) (mg : MG) (body : MS) : MS := fun sl h => (mi (view sl) h).toS sl fun items h1 => forGo mg body items sl h1
theorem rs_for {tg iter : Expr} {mi : MI} {mg : MG} (hp : PassesOwn (model X.prog X.w) X.A X.env X.xe) (hc : X.calm = true) (hi : RI X g W tg iter mi) (hg : RG X g tg mg) (hb : RSs X g W body mb)
    (hs : ∀ x, foldedSetIterable iter X.env x = pure x := by intro _; rfl) : RS X g W (.For tg iter body [] pos) (forM mi mg mb) :=
  ps_imp (ps_for hp hc hi hg hb hs) fun D σ H ⟨w, sl, h, f, k, p⟩ => by
    refine seqS f k p fun w1 H1 h1 items J e1 f1 k1 r1 p1 => ?_
    refine ⟨fun i m σ H => ∃ w sl h, ItOk X.K g w H items J ∧ RF X.K g w H sl σ ∧ Hk X.K g.adr w h H ∧ items.length = i + m ∧ PostS X.K g w H D W (forGo mg mb (items.drop i) sl h), ⟨items.length, w1, sl, h1, r1, f1, k1, by simp, p1⟩, ?_⟩
    rintro i m σ2 H2 ⟨w2, sl2, h2, it, f2, k2, hl, p2⟩
    cases m with
    | zero =>
      refine .inl ⟨by have := it.stop w2 H2 (Sees.refl _ _); rw [hl] at this; exact this, ?_⟩
      rw [List.drop_eq_nil_of_le (by omega)] at p2
      exact p2 w2 H2 σ2 (ExtS.refl _ _) k2 f2
    | succ m =>
      have hi : i < items.length := by omega
      have hd := List.drop_eq_getElem_cons hi
      obtain ⟨go, st⟩ := it.step w2 h2 H2 i items[i] (Sees.refl _ _) k2 (List.getElem?_eq_getElem hi)
      refine .inr ⟨go, fun σ' H' => ∃ m', m' < m + 1 ∧ ∃ w sl h, ItOk X.K g w H' items J ∧ RF X.K g w H' sl σ' ∧ Hk X.K g.adr w h H' ∧ items.length = i + 1 + m' ∧ PostS X.K g w H' D W (forGo mg mb (items.drop (i + 1)) sl h), fun σ' H' q => q, fun x H3 hy => ?_⟩
      obtain ⟨e3, k3, r3⟩ := st x H3 hy
      rw [hd] at p2
      unfold forGo at p2
      split at p2
      · exact p2.elim
      · rename_i asg q
        refine ⟨w2, h2, items[i], asg, k3, r3, q, fun ya ra => ?_⟩
        obtain ⟨w4, e4, k4, f4⟩ := RF.sets (f2.mono e3) k3 ra
        have e24 := e3.toS.trans e4
        refine ⟨w4, _, h2, f4, k4, ?_⟩
        have nxt : ∀ sl1 hh, PostS X.K g w2 H2 D W (forGo mg mb (items.drop (i + 1)) sl1 hh) → ∀ w' H' σ', ExtS w4 H3 w' H' → Hk X.K g.adr w' hh H' → RF X.K g w' H' sl1 σ' →
            ∃ m', m' < m + 1 ∧ ∃ w sl h, ItOk X.K g w H' items J ∧ RF X.K g w H' sl σ' ∧ Hk X.K g.adr w h H' ∧ items.length = i + 1 + m' ∧ PostS X.K g w H' D W (forGo mg mb (items.drop (i + 1)) sl h) := fun sl1 hh pp w' H' σ' e5 k5 f5 =>
          ⟨m, by omega, w', sl1, hh, it.mono (e24.trans e5).sees, f5, k5, by omega, PostS.mono (e24.trans e5) pp⟩
        split at p2
        · rename_i sl1 hh eb
          rw [eb]
          exact nxt sl1 hh p2
        · rename_i sl1 hh eb
          rw [eb]
          exact nxt sl1 hh p2
        · rename_i sl1 hh eb
          rw [eb]
          exact PostS.mono e24 p2
        · rename_i v hh eb
          rw [eb]
          exact PostS.mono e24 p2
        · rename_i x sl1 hh eb
          rw [eb]
          exact PostS.mono e24 p2
        · exact p2.elim
def whileGo (c : MT) (body : MS) : Nat → MS
  | 0, _, _ => .bad
  | n + 1, sl, h => match c (view sl) h with
    | .bad => .bad
    | .exc x h1 => .exc x sl h1
    | .ok false h1 => .nx sl h1
    | .ok true h1 => match body sl h1 with
      | .nx sl1 h2 => whileGo c body n sl1 h2
      | .ct sl1 h2 => whileGo c body n sl1 h2
      | .bk sl1 h2 => .nx sl1 h2
      | .rt v h2 => .rt v h2
      | .exc x sl1 h2 => .exc x sl1 h2
      | .bad => .bad
def whileM (fuel : Sl → VH → Nat) (c : MT) (body : MS) : MS := fun sl h => whileGo c body (fuel sl h) sl h
theorem rs_while (fuel : Sl → VH → Nat) {c : Expr} {mc : MT} (hp : PassesOwn (model X.prog X.w) X.A X.env X.xe) (hc : RT X g W c mc) (hb : RSs X g W body mb) : RS X g W (.While c body [] pos) (whileM fuel mc mb) :=
  ps_imp (ps_while hp hc hb) fun D σ H ⟨w, sl, h, f, k, p⟩ => by
    refine ⟨fun m σ H => ∃ w sl h, RF X.K g w H sl σ ∧ Hk X.K g.adr w h H ∧ PostS X.K g w H D W (whileGo mc mb m sl h), ⟨fuel sl h, w, sl, h, f, k, p⟩, ?_⟩
    rintro m σ2 H2 ⟨w2, sl2, h2, f2, k2, p2⟩
    cases m with
    | zero => exact p2.elim
    | succ m =>
      unfold whileGo at p2
      refine ⟨w2, view sl2, h2, f2.rsl, k2, ?_⟩
      split at p2
      · exact p2.elim
      · rename_i x hh ec
        rw [ec]
        exact fun w3 H3 cls d e3 k3 r3 => p2 w3 H3 σ2 cls d e3.toS k3 (f2.mono e3) r3
      · rename_i hh ec
        rw [ec]
        rintro w3 H3 y e3 k3 r3
        obtain rfl : false = y := r3
        exact iteF (p2 w3 H3 σ2 e3.toS k3 (f2.mono e3))
      · rename_i hh ec
        rw [ec]
        rintro w3 H3 y e3 k3 r3
        obtain rfl : true = y := r3
        refine iteT ⟨fun σ' H' => ∃ m', m' < m + 1 ∧ ∃ w sl h, RF X.K g w H' sl σ' ∧ Hk X.K g.adr w h H' ∧ PostS X.K g w H' D W (whileGo mc mb m' sl h), fun σ' H' q => q, w3, sl2, hh, f2.mono e3, k3, ?_⟩
        have nxt : ∀ sl1 h5, PostS X.K g w2 H2 D W (whileGo mc mb m sl1 h5) → ∀ w' H' σ', ExtS w3 H3 w' H' → Hk X.K g.adr w' h5 H' → RF X.K g w' H' sl1 σ' →
            ∃ m', m' < m + 1 ∧ ∃ w sl h, RF X.K g w H' sl σ' ∧ Hk X.K g.adr w h H' ∧ PostS X.K g w H' D W (whileGo mc mb m' sl h) := fun sl1 h5 pp w' H' σ' e5 k5 f5 =>
          ⟨m, by omega, w', sl1, h5, f5, k5, PostS.mono (e3.toS.trans e5) pp⟩
        split at p2
        · rename_i sl1 h5 eb
          rw [eb]
          exact nxt sl1 h5 p2
        · rename_i sl1 h5 eb
          rw [eb]
          exact nxt sl1 h5 p2
        · rename_i sl1 h5 eb
          rw [eb]
          exact PostS.mono e3.toS p2
        · rename_i v h5 eb
          rw [eb]
          exact PostS.mono e3.toS p2
        · rename_i x sl1 h5 eb
          rw [eb]
          exact PostS.mono e3.toS p2
        · exact p2.elim
end
end Mv
set_option Elab.async false
set_option linter.all false
set_option maxRecDepth 100000
/-! Mv, part I: defs and calls. -/
namespace Mv
open PySem PySem.Spec PyProof.Rows L2

abbrev MF := List VV → VH → Out VV
def startS (n np : Nat) (vs : List VV) : Sl := vs.map .val ++ List.replicate (n - np) .no
def fnM (n np : Nat) (body : MS) : MF := fun vs h => if vs.length = np then (match body (startS n np vs) h with
  | .nx _ h1 => .ok .non h1
  | .rt v h1 => .ok v h1
  | .exc x _ h1 => .exc x h1
  | _ => .bad) else .bad
abbrev WK (E : XK) : WX := fun cls d _ H => E cls d H
def spM (K : PySem.W.Frag) (g : Gx) (mf : MF) : Sp := fun vs H Q E => ∃ w h xs, Hk K g.adr w h H ∧ RVs K g.adr w H xs vs ∧ Post K g (relV K g) w H [] Q (WK E) (mf xs h)
section
variable {K : PySem.W.Frag} {g : Gx} {w w' : Wd} {H H' : Hp} {h h1 : VH} {a : Addr} {m : Nat}
/-- the callee's world -/
def Wd.in (w : Wd) (m : Nat) : Wd := { w with P := fun a => w.P a ∨ some a ∈ w.O, O := List.replicate m none }
theorem no_rep {m : Nat} (z : some a ∈ List.replicate m (none : Option Addr)) : False := by
  have := List.eq_of_mem_replicate z
  cases this
theorem mut_in : (w.in m).mut a ↔ w.mut a := by
  constructor
  · rintro (z | (z | z) | z)
    · exact .inl z
    · exact .inr (.inl z)
    · exact .inr (.inr z)
    · exact (no_rep z).elim
  · rintro (z | z | z)
    · exact .inl z
    · exact .inr (.inl (.inl z))
    · exact .inr (.inl (.inr z))
theorem in_sees : Sees w H (w.in m) H := ⟨fun a o q n => ⟨q, fun z => n (mut_in.mp z)⟩, fun _ _ _ q => q, Nat.le_refl _⟩
theorem Hk.in (k : Hk K g.adr w h H) : Hk K g.adr (w.in m) h H where
  len := k.len
  inj := k.inj
  obj := fun n a hn => by
    obtain ⟨u, h1, h3⟩ := k.obj n a hn
    exact ⟨u, h1, RO.mono in_sees u a (fun z q => q) h3⟩
  has := k.has
  prot := fun a ha => by
    rcases ha with (z | z) | z
    · exact k.prot a (.inl z)
    · exact k.prot a (.inr z)
    · exact (no_rep z).elim
  own := fun a _ z => no_rep z
  ownI := fun n m a hn _ => (no_rep (List.mem_of_getElem? hn)).elim
  spc := k.spc.imp fun a => ⟨id, mut_in.mp⟩
/-- back in the caller's world -/
def Wd.back (w' w : Wd) : Wd := { w' with P := w.P, O := w.O }
theorem mut_back (hP : w'.P = (w.in m).P) (z : (w'.back w).mut a) : w'.mut a := by
  rcases z with z | z | z
  · exact .inl z
  · exact .inr (.inl (by rw [hP]; exact .inl z))
  · exact .inr (.inl (by rw [hP]; exact .inr z))
theorem back_sees (hP : w'.P = (w.in m).P) : Sees w' H (w'.back w) H := ⟨fun a o q n => ⟨q, fun z => n (mut_back hP z)⟩, fun _ _ _ q => q, Nat.le_refl _⟩
theorem back_ext (e : ExtS (w.in m) H w' H') : Ext w H (w'.back w) H' where
  keep := fun a o q n => by
    obtain ⟨h1, h2⟩ := e.keep a o q fun z => n (mut_in.mp z)
    exact ⟨h1, fun z => h2 (mut_back e.P z)⟩
  refs := e.refs
  len := e.len
  P := rfl
  O := rfl
  prot := fun a ha => e.prot a ha
theorem Hk.back (k : Hk K g.adr w h H) (e : ExtS (w.in m) H w' H') (k' : Hk K g.adr w' h1 H') : Hk K g.adr (w'.back w) h1 H' where
  len := k'.len
  inj := k'.inj
  obj := fun n a hn => by
    obtain ⟨u, h1, h3⟩ := k'.obj n a hn
    exact ⟨u, h1, RO.mono (back_sees e.P) u a (fun z q => q) h3⟩
  has := k'.has
  prot := fun a ha => k'.prot a (.inl (by rw [e.P]; exact ha))
  own := k.own
  ownI := k.ownI
  spc := k'.spc.imp fun a => ⟨id, mut_back e.P⟩
theorem RX.back (hP : w'.P = (w.in m).P) {x : Exn} {cls : Value} {d : Option Addr} (r : RX K g w' H x cls d) : RX K g (w'.back w) H x cls d := by
  obtain ⟨e, r⟩ := r
  refine ⟨e, ?_⟩
  cases q : x.pay with
  | none => trivial
  | some v =>
    rw [q] at r
    obtain ⟨dd, y, h1, h2, h3, h4⟩ := r
    exact ⟨dd, y, h1, h2, fun z => h3 (mut_back hP z), RV.mono (back_sees hP) _ _ h4⟩
theorem RF.start {n np : Nat} {xs : List VV} {N : List Str} {vs : List V} (hn : N.length = n) (hl : xs.length = np) (hle : np ≤ n) (r : RVs K g.adr w H xs vs) : RF K g (w.in n) H (startS n np xs) (L2.start N vs) where
  len := by
    unfold startS L2.start
    have := r.length
    simp
    omega
  lenO := by
    unfold startS Wd.in
    simp
    omega
  val := fun i v e => by
    unfold startS at e
    have hi : i < xs.length := by
      apply Classical.byContradiction
      intro c
      rw [List.getElem?_append_right (by simpa using c)] at e
      rw [List.getElem?_replicate] at e
      split at e
      · cases e
      · cases e
    rw [List.getElem?_append_left (by simpa using hi), List.getElem?_map] at e
    cases q : xs[i]? with
    | none => rw [q] at e; cases e
    | some u =>
      rw [q] at e
      cases e
      obtain ⟨y, h1, h2⟩ := r.get i v q
      refine ⟨?_, y, ?_, RV.mono in_sees _ _ h2⟩
      · unfold Wd.in
        rw [List.getElem?_replicate, if_pos (by omega)]
      · unfold L2.start
        rw [List.getElem?_append_left (by rw [List.length_map, ← r.length]; exact hi), List.getElem?_map, h1]
        rfl
  own := fun i zs e => by
    unfold startS at e
    have := List.mem_of_getElem? e
    rcases List.mem_append.mp this with z | z
    · obtain ⟨u, _, e⟩ := List.mem_map.mp z
      cases e
    · have := List.eq_of_mem_replicate z
      cases this
  no := fun i e => by
    have hi := (List.getElem?_eq_some_iff.mp e).1
    unfold startS at hi
    simp at hi
    unfold Wd.in
    rw [List.getElem?_replicate, if_pos (by omega)]
end
/-- a def keeps its mirror -/
theorem fn_ok {P : Program} {w : World} {K : PySem.W.Frag} {mg : Str → Option Value} {base : Heap} {g : Gx} {x qual : Str} {params : Arguments} {body : List Stmt} {scope : Scope} {dvs : List V} {kws : List (Str × V)} {f : Addr} {fd : FuncData} {N ps : List Str} {k n np : Nat} {m : MS}
    (F : FunD K x qual params body scope dvs kws f fd) (S : FnScope N ps scope) (hn : N.length = n) (hp : ps.length = np)
    (hb : ∀ (cdv : Value) (A : Around) (outer : List Env) (s : Shared) (H : Hp) (E : XK), Room k (A.deeper (envOfC qual scope s.heap.objs.size f cdv)) → RSs (cxOf (L2.CX P w) P w K mg base N qual scope f cdv A outer s H E) g (WK E) body m) :
    FnOk P w K mg base (L2.CX P w) (k + 1) f fd ps (spM K g (fnM n np m)) := by
  have hle : np ≤ n := by
    have := S.pre
    rw [← hn, ← hp, ← this, List.length_take]
    omega
  have lenx : ∀ {w H Q} {W : WX} {xs : List VV} {h : VH}, Post K g (relV K g) w H [] Q W (fnM n np m xs h) → xs.length = np := fun {w H Q W xs h} p => by
    unfold fnM at p
    split at p
    · assumption
    · exact p.elim
  refine F.ok S (fun vs H Q E ⟨w1, h, xs, k1, r, p⟩ => by rw [← r.length, hp]; exact lenx p) fun cdv A outer s H vs Q E hr ⟨w1, h, xs, k1, r, p⟩ => ⟨_, hb cdv A outer s H E hr, ?_⟩
  have hl := lenx p
  refine ⟨w1.in n, startS n np xs, h, RF.start hn hl hle r, k1.in, ?_⟩
  unfold fnM at p
  rw [if_pos hl] at p
  split at p
  · rename_i sl1 h1 e
    rw [e]
    exact fun w' H' σ' e1 k2 f1 => p (w'.back w1) H' .non (back_ext e1) (k1.back e1 k2) (by simp only [relV, RV])
  · rename_i v h1 e
    rw [e]
    exact fun w' H' y e1 k2 r1 => p (w'.back w1) H' y (back_ext e1) (k1.back e1 k2) (RV.mono (back_sees e1.P) _ _ r1)
  · rename_i ex sl1 h1 e
    rw [e]
    exact fun w' H' σ' cls d e1 k2 f1 r1 => p (w'.back w1) H' cls d (back_ext e1) (k1.back e1 k2) (r1.back e1.P)
  · exact p.elim
/-- a promise about a mirror that says the same -/
theorem FnOk.eqM {P : Program} {w : World} {K : PySem.W.Frag} {mg : Str → Option Value} {base : Heap} {g : Gx} {f : Addr} {fd : FuncData} {ps : List Str} {k : Nat} {m m' : MF} (F : FnOk P w K mg base (L2.CX P w) k f fd ps (spM K g m)) (e : m' = m) : FnOk P w K mg base (L2.CX P w) k f fd ps (spM K g m') := e ▸ F

/-! ### calls -/
def callF (mf : MF) (a : MA) : ME := fun sv h => (a sv h).bind fun vs h1 => mf vs h1
section
variable {X : Cx} {g : Gx} {W : WX} {e : Expr} {es : List Expr} {ma : MA} {p pos : Pos} {x : Str} {k : Nat} {f : Addr} {fd : FuncData} {ps : List Str} {mf : MF}
theorem re_call (F : FnOk X.prog X.w X.K X.mg X.base (L2.CX X.prog X.w) k f fd ps (spM X.K g mf)) (hr : Room k X.A) (hm : X.mg x = some (.ref f)) (hk : PySem.W.keepIn X.K (.ref f) = true) (hb : Binds X.K fd ps []) (tk : Takes X W) (ha : RA X g W (e :: es) ma) (hg : Gl X x := by rfl)
    (hdb : (x == ("__debug__" : Str)) = false := by decide) (he : starEach (e :: es) X.env = (false, eval e X.env) :: starEach es X.env := by rfl) (hpl : (backTo pos (starEach es X.env)).any (·.1) = false := by rfl) :
    RE X g W (.Call (.Name x p) (e :: es) [] pos) (callF mf ma) :=
  pe_imp (pe_callSD (E := WE W) F hr hg hm hk hb .nil (fun σ => passAt tk σ) ha hdb he hpl) fun σ H Q ⟨w, sv, h, rs, hk, pp⟩ => by
    refine seqG' rs hk pp fun w1 H1 h1 vs y e1 rs1 k1 r1 p1 => ?_
    refine ⟨w1, h1, vs, k1, by rw [List.append_nil]; exact r1, ?_⟩
    cases q : mf vs h1 with
    | ok v h2 => rw [q] at p1; exact p1
    | exc x h2 => rw [q] at p1; exact p1
    | bad => rw [q] at p1; exact p1
end
end Mv
set_option Elab.async false
set_option linter.all false
set_option maxRecDepth 100000
/-! Mv, part J: in, bit_length, {}, sorted of dicts and sets. -/
namespace Mv
open PySem PySem.Spec PyProof.Rows L2

/-! ### in -/
def scV : VV → Option V
  | .non => some .non
  | .bl b => some (.bl b)
  | .int i => some (.int i)
  | .str x => some (.str x)
  | _ => none
def scVs : List VV → Option (List V)
  | [] => some []
  | x :: xs => (scV x).bind fun y => (scVs xs).map fun ys => y :: ys
def seqOf (h : VH) : VV → Option (List VV)
  | .tup xs => some xs
  | .lst xs => some xs
  | .rol xs => some xs
  | .ref n => (match h[n]? with
    | some (.lst xs) => some xs
    | _ => none)
  | _ => none
section
variable {K : PySem.W.Frag} {g : Gx} {w : Wd} {H : Hp} {h : VH} {G : Nat → Addr}
theorem scV_ok {x : VV} {v y : V} (e : scV x = some v) (r : RV K G w H x y) : y = v ∧ flatV v = true := by
  cases x with
  | non => simp only [scV, Option.some.injEq] at e; simp only [RV] at r; subst e r; exact ⟨rfl, rfl⟩
  | bl b => simp only [scV, Option.some.injEq] at e; simp only [RV] at r; subst e r; exact ⟨rfl, rfl⟩
  | int b => simp only [scV, Option.some.injEq] at e; simp only [RV] at r; subst e r; exact ⟨rfl, rfl⟩
  | str b => simp only [scV, Option.some.injEq] at e; simp only [RV] at r; subst e r; exact ⟨rfl, rfl⟩
  | _ => simp only [scV] at e; cases e
theorem scVs_ok : ∀ {xs : List VV} {vs ys : List V}, scVs xs = some vs → RVs K G w H xs ys → ys = vs ∧ vs.all flatV = true
  | [], _, _, e, r => by
    simp only [scVs, Option.some.injEq] at e
    simp only [RVs] at r
    subst e r
    exact ⟨rfl, rfl⟩
  | x :: xs, _, _, e, r => by
    simp only [scVs, Option.bind_eq_some_iff, Option.map_eq_some_iff] at e
    obtain ⟨v, e1, vs, e2, rfl⟩ := e
    simp only [RVs] at r
    obtain ⟨y, ys, rfl, r1, r2⟩ := r
    obtain ⟨rfl, f1⟩ := scV_ok e1 r1
    obtain ⟨rfl, f2⟩ := scVs_ok e2 r2
    exact ⟨rfl, by rw [List.all_cons, f1, f2]; rfl⟩
theorem seqOf_ok {x : VV} {xs : List VV} {y : V} (hk : Hk K g.adr w h H) (e : seqOf h x = some xs) (r : RV K g.adr w H x y) : ∃ p ys, y = .ref p ∧ (SqL K H p ys ∨ SqT K H p ys) ∧ RVs K g.adr w H xs ys := by
  cases x with
  | tup zs => simp only [seqOf, Option.some.injEq] at e; subst e; obtain ⟨p, ys, e, q, r⟩ := r.tup_get; exact ⟨p, ys, e, .inr q, r⟩
  | lst zs => simp only [seqOf, Option.some.injEq] at e; subst e; obtain ⟨p, ys, e, q, r⟩ := r.lst_get; exact ⟨p, ys, e, .inl (SqL.of q), r⟩
  | rol zs => simp only [seqOf, Option.some.injEq] at e; subst e; obtain ⟨p, ys, e, q, r⟩ := r.rol_get; exact ⟨p, ys, e, .inl q, r⟩
  | ref n =>
    simp only [seqOf] at e
    split at e
    · rename_i zs q
      simp only [Option.some.injEq] at e
      subst e
      obtain ⟨a, ys, rfl, _, h2, r2⟩ := ref_get hk r q
      exact ⟨a, ys, rfl, .inl (SqL.of h2), r2⟩
    · cases e
  | _ => simp only [seqOf] at e; cases e
end
/-- x in y, x and the items flat -/
def inF (neg : Bool) : V2 := fun x y h => match scV x with
  | some a => (match (seqOf h y).bind scVs with
    | some bs => .ok (.bl (if neg then !L2.inV a bs else L2.inV a bs)) h
    | none => .bad)
  | none => .bad
theorem inS {K : PySem.W.Frag} {g : Gx} {neg : Bool} : OpS K g (rIn K neg) (inF neg) := by
  intro w h H σ W Q x y vx vy hk rx ry p
  unfold inF at p
  split at p
  · rename_i a ea
    split at p
    · rename_i bs eb
      obtain ⟨ys, e1, e2⟩ := Option.bind_eq_some_iff.mp eb
      obtain ⟨rfl, fa⟩ := scV_ok ea rx
      obtain ⟨q, zs, rfl, hq, rz⟩ := seqOf_ok hk e1 ry
      obtain ⟨rfl, fb⟩ := scVs_ok e2 rz
      exact ⟨q, zs, rfl, hq, fa, fb, post_bl p hk⟩
    · exact p.elim
  · exact p.elim
theorem inMono {K : PySem.W.Frag} {neg : Bool} : ∀ x y H Q Q', (∀ z H', Q z H' → Q' z H') → rIn K neg x y H Q → rIn K neg x y H Q' := fun x y H Q Q' i ⟨p, xs, h1, h2, h3, h4, h5⟩ => ⟨p, xs, h1, h2, h3, h4, i _ _ h5⟩

/-! ### x.bit_length(), {} -/
section
variable {X : Cx} {g : Gx} {W : WX} {o e : Expr} {mo : ME} {ma : MA} {pos apos p p2 p3 : Pos}
def bitsM (a : ME) : ME := fun sv h => (a sv h).bind fun x h1 => match x with
  | .int i => .ok (.int (Builtin.Int.intBits i : Nat)) h1
  | _ => .bad
theorem re_bits (ho : RE X g W o mo) (hbase : attributeBase o "bit_length" X.env (eval o X.env) = eval o X.env := by rfl) (hline : (apos.endLine == pos.line) = true := by rfl) : RE X g W (.Call (.Attribute o "bit_length" apos) [] [] pos) (bitsM mo) :=
  pe_imp (pe_bits ho hbase hline) fun σ H Q ⟨w, sv, h, rs, hk, pp⟩ => seqG' rs hk pp fun w1 H1 h1 v y e1 rs1 k1 r1 p1 => by
    split at p1
    · rename_i i
      exact ⟨i, r1.int_eq, post_int p1 k1⟩
    · exact p1.elim
theorem re_dnil : RE X g W (.Dict [] [] pos) (cM (.dct [] [])) := pe_imp pe_dnewK fun σ H Q ⟨w, sv, h, rs, hk, pp⟩ q hq => by
  have ex : Ext w H w (upd H q (.dK [])) := Ext.grow hk hq
  refine pp w _ (.ref q) ex (Hk.grow hk hq) ?_
  simp only [relV, RV]
  exact ⟨q, [], rfl, ⟨upd_same, hk.fresh hq⟩, by simp [RVs], by simp [RVs]⟩

/-! ### sorted -/
def insU (x : Int) : List Int → List Int
  | [] => [x]
  | y :: ys => if x < y then x :: y :: ys else if x = y then y :: ys else y :: insU x ys
def sortU : List Int → List Int
  | [] => []
  | x :: xs => insU x (sortU xs)
theorem mem_insU (x z : Int) : ∀ l : List Int, z ∈ insU x l ↔ z = x ∨ z ∈ l
  | [] => by simp [insU]
  | y :: ys => by
    unfold insU
    split
    · simp
    · split
      · rename_i e
        subst e
        simp
      · rw [List.mem_cons, mem_insU x z ys, List.mem_cons]
        constructor
        · rintro (h | h | h)
          · exact .inr (.inl h)
          · exact .inl h
          · exact .inr (.inr h)
        · rintro (h | h | h)
          · exact .inr (.inl h)
          · exact .inl h
          · exact .inr (.inr h)
theorem mem_sortU (z : Int) : ∀ l : List Int, z ∈ sortU l ↔ z ∈ l
  | [] => by simp [sortU]
  | x :: xs => by unfold sortU; rw [mem_insU, mem_sortU z xs, List.mem_cons]
theorem insU_sorted (x : Int) : ∀ l : List Int, l.Pairwise (· < ·) → (insU x l).Pairwise (· < ·)
  | [], _ => by simp [insU]
  | y :: ys, h => by
    rw [List.pairwise_cons] at h
    unfold insU
    split
    · rename_i c
      rw [List.pairwise_cons]
      refine ⟨fun z hz => ?_, by rw [List.pairwise_cons]; exact h⟩
      rcases List.mem_cons.mp hz with e | hz
      · rw [e]; exact c
      · exact Int.lt_trans c (h.1 z hz)
    · split
      · rw [List.pairwise_cons]; exact h
      · rename_i c1 c2
        rw [List.pairwise_cons]
        refine ⟨fun z hz => ?_, insU_sorted x ys h.2⟩
        rcases (mem_insU x z ys).mp hz with e | hz
        · rw [e]; omega
        · exact h.1 z hz
theorem sortU_sorted : ∀ l : List Int, (sortU l).Pairwise (· < ·)
  | [] => by simp [sortU]
  | x :: xs => insU_sorted x _ (sortU_sorted xs)
theorem strict_unique : ∀ {l m : List Int}, l.Pairwise (· < ·) → m.Pairwise (· < ·) → (∀ z, z ∈ l ↔ z ∈ m) → l = m
  | [], [], _, _, _ => rfl
  | [], y :: m, _, _, h => absurd ((h y).mpr List.mem_cons_self) (by simp)
  | x :: l, [], _, _, h => absurd ((h x).mp List.mem_cons_self) (by simp)
  | x :: l, y :: m, hl, hm, h => by
    rw [List.pairwise_cons] at hl hm
    have e : x = y := by
      rcases List.mem_cons.mp ((h x).mp List.mem_cons_self) with e | hx
      · exact e
      · rcases List.mem_cons.mp ((h y).mpr List.mem_cons_self) with e | hy
        · exact e.symm
        · have h1 := hm.1 x hx
          have h2 := hl.1 y hy
          omega
    subst e
    rw [strict_unique hl.2 hm.2 fun z => ?_]
    constructor
    · intro hz
      rcases List.mem_cons.mp ((h z).mp (List.mem_cons_of_mem _ hz)) with e | hz'
      · have := hl.1 z hz
        omega
      · exact hz'
    · intro hz
      rcases List.mem_cons.mp ((h z).mpr (List.mem_cons_of_mem _ hz)) with e | hz'
      · have := hm.1 z hz
        omega
      · exact hz'
/-- set(t), t a tuple of ints -/
def rSetI (K : PySem.W.Frag) (w : World) : List V → Hp → VK → Prop := fun xs H Q => ∃ (a : Addr) (ns : List Int), xs = [.ref a] ∧ SqT K H a (ns.map V.int) ∧ ns.length < 63 ∧ ∀ p c, H p = none → c ≤ ns.length → Q (.ref p) (upd H p (SetO w p (fun j => decide (j ∈ ns)) c))
theorem cr_setI (hc : X.calm = true) : CallR X (.type "set") (rSetI X.K X.w) := by
  intro pins s σ H xs us Q I r h
  obtain ⟨a, ns, rfl, ha, hz, q⟩ := h
  obtain ⟨its, rv, ht, hz2⟩ := I.tuple ha
  rw [Vals.ref1 r]
  refine call_set_tupI ns (I.ok.hd hc) (show s.heap.IsTuple a its.toArray from ht) (by simpa using intsAre_of rv) (by unfold scanBound; omega) fun h' tk c R hcl k => ?_
  refine ⟨.ref s.heap.objs.size, _, I.laid (t' := tk) k (Nat.le_refl _) (setO_new R), rfl, q _ c (I.hok.fresh (Nat.le_refl _)) hcl⟩
def sortedSetF : VF := fun xs h => match xs with
  | [.tup ys] => (match allIt ys with | some ns => if ns.length < 63 then .ok (.lst ((sortU ns).map VV.int)) h else .bad | none => .bad)
  | _ => .bad
theorem re_sortedSet (hc : X.calm = true) (hg : Gl X "sorted") (hm : X.mg "sorted" = none) (hg2 : Gl X "set") (hm2 : X.mg "set" = none) (ha : RA X g W [e] ma) (hs : starEach [e] X.env = (false, eval e X.env) :: starEach [] X.env := by rfl)
    (hs2 : starEach [.Call (.Name "set" p2) [e] [] p3] X.env = (false, eval (.Call (.Name "set" p2) [e] [] p3) X.env) :: starEach [] X.env := by rfl) (hpl : (backTo p3 (starEach [] X.env)).any (·.1) = false := by rfl) (hpl2 : (backTo pos (starEach [] X.env)).any (·.1) = false := by rfl) :
    RE X g W (.Call (.Name "sorted" p) [.Call (.Name "set" p2) [e] [] p3] [] pos) (callM sortedSetF ma) :=
  pe_imp (pe_callB (cr_sortedSet hc) hg hm boot_sorted (pa_cons (pe_callTy (cr_setI hc) hg2 hm2 boot_set ha (by decide) (by decide) hs hpl) pa_nil) (by decide) (by decide) hs2 hpl2) fun σ H Q ⟨w, sv, h, rs, hk, pp⟩ => by
    refine seqG' rs hk pp fun w1 H1 h1 vs ys e1 rs1 k1 r1 p1 => ?_
    unfold sortedSetF at p1
    split at p1
    · split at p1
      · rename_i ns en
        split at p1
        · rename_i hz
          obtain ⟨y, rfl, r0⟩ := RVs.one r1
          obtain ⟨a, zs, rfl, ha, r2⟩ := RV.tup_get r0
          rw [allIt_ok en] at r2
          rw [r2.ints] at ha
          refine ⟨a, ns, rfl, ha, hz, fun q c hq hcl => ?_⟩
          refine ⟨q, _, c, rfl, upd_same, by omega, fun ns' q2 hs hm hl hq2 => ?_⟩
          have e2 : ns' = sortU ns := strict_unique hs (sortU_sorted ns) fun z => by rw [hm z, mem_sortU]; simp
          rw [e2]
          have ex1 : Ext w1 H1 w1 (upd H1 q (SetO X.w q (fun j => decide (j ∈ ns)) c)) := Ext.grow k1 hq
          exact post_newl (Post.mono ex1 p1) (Hk.grow k1 hq) (RVs.of_ints _) hq2
        · exact p1.elim
      · exact p1.elim
    · exact p1.elim
end
end Mv
set_option Elab.async false
set_option linter.all false
set_option maxRecDepth 100000
/-! Mv, part K: dict comprehensions. -/
namespace Mv
open PySem PySem.Spec PyProof.Rows L2

/-! ### keys -/
def vvK : Key → VV
  | .inl i => .int i
  | .inr x => .str x
def keyOf : VV → Option Key
  | .int i => some (.inl i)
  | .str x => some (.inr x)
  | _ => none
def sameK (a b : VV) : Bool := match keyOf a, keyOf b with
  | some x, some y => decide (x = y)
  | _, _ => false
def putL (ks vs : List VV) (k v : VV) : List VV × List VV := if ks.any (fun x => sameK x k) then (ks, List.zipWith (fun x y => if sameK x k then v else y) ks vs) else (ks ++ [k], vs ++ [v])
theorem keyOf_vvK (k : Key) : keyOf (vvK k) = some k := by cases k <;> rfl
theorem of_keyOf {x : VV} {k : Key} (e : keyOf x = some k) : x = vvK k := by
  cases x with
  | int i => simp only [keyOf, Option.some.injEq] at e; subst e; rfl
  | str i => simp only [keyOf, Option.some.injEq] at e; subst e; rfl
  | _ => simp only [keyOf] at e; cases e
theorem sameK_vvK (a b : Key) : sameK (vvK a) (vvK b) = decide (a = b) := by unfold sameK; rw [keyOf_vvK, keyOf_vvK]
section
variable {K : PySem.W.Frag} {G : Nat → Addr} {w : Wd} {H : Hp}
theorem RV.of_kV {x : VV} {k : Key} (r : RV K G w H x (kV k)) : x = vvK k := by
  cases k with
  | inl i =>
    cases x with
    | int j => simp only [RV, kV, V.int.injEq] at r; subst r; rfl
    | tup xs => simp only [RV, kV] at r; obtain ⟨_, _, e, _⟩ := r; cases e
    | lst xs => simp only [RV, kV] at r; obtain ⟨_, _, e, _⟩ := r; cases e
    | rol xs => simp only [RV, kV] at r; obtain ⟨_, _, e, _⟩ := r; cases e
    | dct xs ys => simp only [RV, kV] at r; obtain ⟨_, _, e, _⟩ := r; cases e
    | ref n => simp only [RV, kV] at r; obtain ⟨_, e, _⟩ := r; cases e
    | _ => simp [RV, kV] at r
  | inr i =>
    cases x with
    | str j => simp only [RV, kV, V.str.injEq] at r; subst r; rfl
    | tup xs => simp only [RV, kV] at r; obtain ⟨_, _, e, _⟩ := r; cases e
    | lst xs => simp only [RV, kV] at r; obtain ⟨_, _, e, _⟩ := r; cases e
    | rol xs => simp only [RV, kV] at r; obtain ⟨_, _, e, _⟩ := r; cases e
    | dct xs ys => simp only [RV, kV] at r; obtain ⟨_, _, e, _⟩ := r; cases e
    | ref n => simp only [RV, kV] at r; obtain ⟨_, e, _⟩ := r; cases e
    | _ => simp [RV, kV] at r
theorem RV.to_kV (k : Key) : RV K G w H (vvK k) (kV k) := by cases k <;> simp only [vvK, kV, RV]
theorem RV.key {x : VV} {y : V} {k : Key} (r : RV K G w H x y) (e : keyOf x = some k) : y = kV k := by
  have e2 := of_keyOf e
  subst e2
  cases k <;> simpa only [vvK, kV, RV] using r
theorem RVs.keys : ∀ {ks : List VV} {kvs : List (Key × V)}, RVs K G w H ks (kvs.map fun p => kV p.1) → ks = kvs.map fun p => vvK p.1
  | [], [], _ => rfl
  | [], _ :: _, r => by simp [RVs] at r
  | x :: xs, [], r => by simp [RVs] at r
  | x :: xs, p :: kvs, r => by
    simp only [List.map_cons, RVs] at r
    obtain ⟨y, r2, e, h1, h2⟩ := r
    injection e with e1 e2
    subst e1 e2
    rw [List.map_cons, ← RVs.keys h2, ← RV.of_kV h1]
theorem RVs.of_keys : ∀ (kvs : List (Key × V)), RVs K G w H (kvs.map fun p => vvK p.1) (kvs.map fun p => kV p.1)
  | [] => by simp [RVs]
  | p :: kvs => by
    simp only [List.map_cons, RVs]
    exact ⟨_, _, rfl, RV.to_kV p.1, RVs.of_keys kvs⟩
theorem any_keys (k : Key) : ∀ kvs : List (Key × V), ((kvs.map fun p => vvK p.1).any fun x => sameK x (vvK k)) = kvs.any fun kv => decide (kv.1 = k)
  | [] => rfl
  | p :: kvs => by rw [List.map_cons, List.any_cons, List.any_cons, any_keys k kvs, sameK_vvK]
theorem put_vals {v : VV} {z : V} (k : Key) (rv : RV K G w H v z) : ∀ {vs : List VV} {kvs : List (Key × V)}, RVs K G w H vs (kvs.map fun p => p.2) →
    RVs K G w H (List.zipWith (fun x y => if sameK x (vvK k) then v else y) (kvs.map fun p => vvK p.1) vs) ((kvs.map fun kv => if kv.1 = k then (kv.1, z) else kv).map fun p => p.2)
  | [], [], _ => by simp [RVs]
  | [], _ :: _, r => by simp [RVs] at r
  | x :: xs, [], r => by simp [RVs] at r
  | x :: xs, p :: kvs, r => by
    simp only [List.map_cons, RVs] at r
    obtain ⟨y, r2, e, h1, h2⟩ := r
    injection e with e1 e2
    subst e1 e2
    simp only [List.map_cons, List.zipWith_cons_cons, RVs]
    refine ⟨_, _, rfl, ?_, put_vals k rv h2⟩
    rw [sameK_vvK]
    by_cases c : p.1 = k
    · rw [if_pos c, if_pos (by simpa using c)]
      exact rv
    · rw [if_neg c, if_neg (by simpa using c)]
      exact h1
/-- putL stands for putK -/
theorem put_ok {ks vs : List VV} {kvs : List (Key × V)} {x v : VV} {z : V} {k : Key} (rk : RVs K G w H ks (kvs.map fun p => kV p.1)) (rs : RVs K G w H vs (kvs.map fun p => p.2)) (e : keyOf x = some k) (rv : RV K G w H v z) :
    RVs K G w H (putL ks vs x v).1 ((putK kvs k z).map fun p => kV p.1) ∧ RVs K G w H (putL ks vs x v).2 ((putK kvs k z).map fun p => p.2) := by
  have e1 := of_keyOf e
  have e2 := rk.keys
  subst e1 e2
  unfold putL putK
  rw [any_keys]
  by_cases c : (kvs.any fun kv => decide (kv.1 = k)) = true
  · rw [if_pos c, if_pos c]
    refine ⟨?_, put_vals k rv rs⟩
    have e3 : (kvs.map fun kv => if kv.1 = k then (kv.1, z) else kv).map (fun p => kV p.1) = kvs.map fun p => kV p.1 := by
      rw [List.map_map]
      refine List.map_congr_left fun p _ => ?_
      show kV (if p.1 = k then (p.1, z) else p).1 = kV p.1
      split <;> rfl
    rw [e3]
    exact rk
  · rw [if_neg c, if_neg c]
    refine ⟨?_, ?_⟩
    · rw [List.map_append]
      refine rk.app ?_
      simp only [List.map_cons, List.map_nil, RVs]
      exact ⟨_, _, rfl, RV.to_kV k, rfl⟩
    · rw [List.map_append]
      refine rs.app ?_
      simp only [List.map_cons, List.map_nil, RVs]
      exact ⟨_, _, rfl, rv, rfl⟩
theorem putK_len (kvs : List (Key × V)) (k : Key) (z : V) : (putK kvs k z).length ≤ kvs.length + 1 := length_putK kvs k z
end

/-! ### the turns -/
abbrev KVs := List VV × List VV
def dcGo (sv : Sv) (mg : MG) (t : MT) (ek ev : ME) : List VV → KVs → VH → Out KVs
  | [], d, h => .ok d h
  | v :: r, d, h => match mg v with
    | none => .bad
    | some asg => (t (setsV asg sv) h).nox.bind fun b h1 => if b then (ek (setsV asg sv) h1).nox.bind fun x h2 => (ev (setsV asg sv) h2).nox.bind fun y h3 => (match keyOf x with
        | some _ => dcGo sv mg t ek ev r (putL d.1 d.2 x y) h3
        | none => .bad) else dcGo sv mg t ek ev r d h1
def dcM (it : MI) (mg : MG) (vs : List Nat) (t : MT) (ek ev : ME) : ME := fun sv h => (it sv h).bind fun items h1 => if fits items.length then (dcGo (wipeS sv vs) mg t ek ev items ([], []) h1).bind fun d h2 => .ok (.dct d.1 d.2) h2 else .bad
section
variable {X : Cx} {g : Gx} {W : WX} {tg iter kx vx : Expr} {ifs : List Expr} {scope : Scope} {pos : Pos} {mi : MI} {mg : MG} {is : List Nat} {mt : MT} {mk mv : ME}
theorem dc_imp {vs : List Nat} (hIn : InIs mg is) (hs : ∀ j ∈ is, j ∈ vs) {σ : L2.St} {H : Hp} {Q : VK} (t : tG X.K g (relV X.K g) (dcM mi mg vs mt mk mv) W σ H Q) :
    tDc (tG X.K g (relI X.K g) mi W) (tGt X.K g mg) (tG X.K g relB mt W0) (tG X.K g (relV X.K g) mk W0) (tG X.K g (relV X.K g) mv W0) vs σ H Q := by
  obtain ⟨w, sv, h, rs, hk, p⟩ := t
  refine seqG' rs hk p fun w1 H1 h1 items J e1 rs1 k1 r1 p1 => ?_
  intro D hD
  by_cases hf : fits items.length = true
  case neg => rw [if_neg hf] at p1; exact p1.elim
  rw [if_pos hf] at p1
  have hz := fits_le hf
  refine ⟨fun i m H2 => m = items.length - i ∧ i ≤ items.length ∧ ∃ w2 h2 d kvs, Gd w1 H1 D w2 H2 ∧ Hk X.K g.adr w2 h2 H2 ∧ H2 D = some (.dK kvs) ∧ RVs X.K g.adr w2 H2 d.1 (kvs.map fun p => kV p.1) ∧ RVs X.K g.adr w2 H2 d.2 (kvs.map fun p => p.2) ∧ kvs.length ≤ i ∧
      RSl X.K g w2 H2 (wipeS sv vs) (wipe σ vs) ∧ Post X.K g (relV X.K g) w1 H1 σ Q W ((dcGo (wipeS sv vs) mg mt mk mv (items.drop i) d h2).bind fun d h3 => .ok (.dct d.1 d.2) h3),
    ⟨items.length, by simp, Nat.zero_le _, w1.guard D, h1, ([], []), [], Gd.start k1 hD, guard_hk k1 hD, upd_same, by simp [RVs], by simp [RVs], Nat.le_refl _, (rs1.wipe vs).mono _ _ (guard_sees k1 hD), by simpa using p1⟩, ?_⟩
  rintro i m H2 ⟨rfl, hi, w2, h2, d, kvs, gd, k2, hD2, rk, rv, hl, rs2, p2⟩
  by_cases hlt : i < items.length
  · right
    have hv : items[i]? = some items[i] := List.getElem?_eq_getElem hlt
    generalize items[i] = v at hv
    have hdrop : items.drop i = v :: items.drop (i + 1) := by
      rw [List.drop_eq_getElem_cons hlt]
      congr 1
      rw [List.getElem?_eq_getElem hlt] at hv
      exact Option.some.inj hv
    rw [hdrop] at p2
    simp only [dcGo] at p2
    obtain ⟨go, yl⟩ := r1.step w2 h2 H2 i v gd.sees k2 hv
    refine ⟨go, fun H' => ∃ w3 h3 d kvs, Gd w1 H1 D w3 H' ∧ Hk X.K g.adr w3 h3 H' ∧ H' D = some (.dK kvs) ∧ RVs X.K g.adr w3 H' d.1 (kvs.map fun p => kV p.1) ∧ RVs X.K g.adr w3 H' d.2 (kvs.map fun p => p.2) ∧ kvs.length ≤ i + 1 ∧
      RSl X.K g w3 H' (wipeS sv vs) (wipe σ vs) ∧ Post X.K g (relV X.K g) w1 H1 σ Q W ((dcGo (wipeS sv vs) mg mt mk mv (items.drop (i + 1)) d h3).bind fun d h3 => .ok (.dct d.1 d.2) h3),
      fun H' q => ⟨items.length - (i + 1), by omega, rfl, hlt, q⟩, fun x H3 hy => ?_⟩
    obtain ⟨ex, k3, rx⟩ := yl x H3 hy
    cases em : mg v with
    | none => rw [em] at p2; exact p2.elim
    | some asg =>
      rw [em] at p2
      dsimp only at p2
      refine ⟨w2, h2, v, asg, k3, rx, em, fun ya rya => ?_⟩
      have rs3 := (rs2.mono _ _ ex.sees).sets rya
      refine ⟨wipe_eq (is := is) (setsR_length _ _) hs fun j hj => setsR_ne fun p hp z => ?_, ?_⟩
      · obtain ⟨q, hq, e⟩ := rya.ix p hp
        exact hj (by rw [← z, ← e]; exact hIn v asg em q hq)
      generalize setsV asg (wipeS sv vs) = sv2 at rs3 p2
      generalize setsR ya (wipe σ vs) = σ2 at rs3
      rw [Out.bind_assoc] at p2
      have gd3 := gd.ext ex
      have prD : ∀ {wa : Wd} {Ha : Hp} {wb : Wd} {Hb : Hp}, Gd w1 H1 D wa Ha → Ext wa Ha wb Hb → Hb D = Ha D := fun ga e => e.prot D (.inl (by rw [ga.P]; exact .inr rfl))
      have hD3 : H3 D = some (.dK kvs) := (prD gd ex).trans hD2
      refine ⟨w2, sv2, h2, rs3, k3, ?_⟩
      cases et : mt sv2 h2 with
      | bad => rw [et] at p2; exact p2.elim
      | exc x h4 => rw [et] at p2; exact p2.elim
      | ok b h4 =>
        rw [et] at p2
        simp only [Out.nox, Out.bind] at p2
        intro w4 H4 b' e4 k4 eb
        have eb : b = b' := eb
        subst eb
        have gd4 := gd3.ext e4
        have hD4 := (prD gd3 e4).trans hD3
        have se4 := ex.sees.trans e4.sees
        have rs4 := rs2.mono _ _ se4
        cases b with
        | false =>
          rw [if_neg Bool.false_ne_true] at p2 ⊢
          exact ⟨w4, h4, d, kvs, gd4, k4, hD4, RVs.mono se4 _ _ rk, RVs.mono se4 _ _ rv, Nat.le_succ_of_le hl, rs4, p2⟩
        | true =>
          rw [if_pos rfl] at p2 ⊢
          refine ⟨w4, sv2, h4, rs3.mono _ _ e4.sees, k4, ?_⟩
          cases ee : mk sv2 h4 with
          | bad => rw [ee] at p2; exact p2.elim
          | exc x h5 => rw [ee] at p2; exact p2.elim
          | ok xk h5 =>
            rw [ee] at p2
            simp only [Out.nox, Out.bind] at p2
            intro w5 H5 y e5 k5 ry
            have gd5 := gd4.ext e5
            have hD5 := (prD gd4 e5).trans hD4
            have se5 := se4.trans e5.sees
            refine ⟨w5, sv2, h5, (rs3.mono _ _ e4.sees).mono _ _ e5.sees, k5, ?_⟩
            cases ev : mv sv2 h5 with
            | bad => rw [ev] at p2; exact p2.elim
            | exc x h6 => rw [ev] at p2; exact p2.elim
            | ok xv h6 =>
              rw [ev] at p2
              simp only [Out.nox, Out.bind] at p2
              intro w6 H6 z e6 k6 rz
              have gd6 := gd5.ext e6
              have hD6 := (prD gd5 e6).trans hD5
              have se6 := se5.trans e6.sees
              cases ek : keyOf xk with
              | none => rw [ek] at p2; exact p2.elim
              | some kk =>
                rw [ek] at p2
                dsimp only at p2
                have sg : Sees w6 H6 w6 (upd H6 D (.dK (putK kvs kk z))) := guard_set_sees gd6.P
                obtain ⟨a1, a2⟩ := put_ok (RVs.mono se6 _ _ rk) (RVs.mono se6 _ _ rv) ek rz
                refine ⟨kvs, kk, ry.key ek, hD6, Nat.lt_of_lt_of_le (Nat.lt_of_le_of_lt hl hlt) hz, w6, h6, putL d.1 d.2 xk xv, putK kvs kk z, gd6.set k1 hD, guard_set_hk gd6.P k6, upd_same, RVs.mono sg _ _ a1, RVs.mono sg _ _ a2, ?_, (rs2.mono _ _ se6).mono _ _ sg, p2⟩
                have := putK_len kvs kk z
                omega
  · left
    have e : i = items.length := by omega
    subst e
    refine ⟨r1.stop w2 H2 gd.sees, ?_⟩
    rw [List.drop_length] at p2
    refine p2 (w2.bare w1.P) H2 (.ref D) gd.done (unguard_hk gd.P k2) ?_
    simp only [relV, RV]
    exact ⟨D, kvs, rfl, ⟨hD2, gd.free k1 hD k2⟩, RVs.mono (unguard_sees gd.P) _ _ rk, RVs.mono (unguard_sees gd.P) _ _ rv⟩
/-- {k: v for tg in iter if ..} -/
theorem re_dc {own : List (Str × Nat)} (hc : X.calm = true) (hN : X.N.Nodup) (hi : RI X g W tg iter mi) (ok : BlkOk X.N X.env.scope scope own) (his : InIs mg is) (hs : ∀ j ∈ is, j ∈ own.map (·.2))
    (hg : ∀ (s : Shared) (H : Hp) (C : Addr) (cl : List (Str × Addr)) (fp : List Addr), RG (X.blk s H scope (compEnvC scope cl C X.env) fp) g tg mg) (ht : ∀ (s : Shared) (H : Hp) (C : Addr) (cl : List (Str × Addr)) (fp : List Addr), RTs (X.blk s H scope (compEnvC scope cl C X.env) fp) g W0 ifs mt)
    (hk : ∀ (s : Shared) (H : Hp) (C : Addr) (cl : List (Str × Addr)) (fp : List Addr), RE (X.blk s H scope (compEnvC scope cl C X.env) fp) g W0 kx mk)
    (he : ∀ (s : Shared) (H : Hp) (C : Addr) (cl : List (Str × Addr)) (fp : List Addr), RE (X.blk s H scope (compEnvC scope cl C X.env) fp) g W0 vx mv) (hf : ∀ x, foldedSetIterable iter X.env x = pure x := by intro _; rfl) :
    RE X g W (.DictComp kx vx [⟨tg, iter, ifs, 0⟩] scope pos) (dcM mi mg (own.map (·.2)) mt mk mv) :=
  pe_imp (pe_dc hc hN hi ok hg ht hk he hf) fun σ H Q t => dc_imp his hs t

/-! ### sorted of lists of ints, of dicts -/
def sortedDF : VF := fun xs h => match xs with
  | [.dct ks _] => (match allIt ks with | some ns => if ns.length < 64 then .ok (.lst ((sortI ns).map VV.int)) h else .bad | none => .bad)
  | _ => .bad
abbrev rSortedDI : List V → Hp → VK → Prop := fun xs H Q => ∃ (a : Addr) (kvs : List (Key × V)) (ks : List Int), xs = [.ref a] ∧ Rd H a (.dK kvs) ∧ kvs.map (·.1) = ks.map Sum.inl ∧ ks.length < 64 ∧
    ∀ (ys : List Int) (p : Addr), ys.Perm ks → ys.Pairwise (· ≤ ·) → H p = none → Q (.ref p) (upd H p (.lst (ys.map V.int)))
theorem keys_inl : ∀ {ns : List Int} {kvs : List (Key × V)}, ns.map VV.int = (kvs.map fun p => vvK p.1) → kvs.map (·.1) = ns.map Sum.inl
  | [], [], _ => rfl
  | [], _ :: _, e => by simp at e
  | _ :: _, [], e => by simp at e
  | n :: ns, p :: kvs, e => by
    simp only [List.map_cons, List.cons.injEq] at e ⊢
    refine ⟨?_, keys_inl e.2⟩
    obtain ⟨k, v⟩ := p
    cases k with
    | inl i =>
      have := e.1
      simp only [vvK, VV.int.injEq] at this
      rw [this]
    | inr s => simp [vvK] at e
theorem sortedDS {K : PySem.W.Frag} : CallS K g rSortedDI sortedDF := by
  intro w h H σ W Q xs vs hk r p
  unfold sortedDF at p
  split at p
  · split at p
    · rename_i ns e
      split at p
      · rename_i hz
        obtain ⟨y, rfl, r1⟩ := RVs.one r
        simp only [RV] at r1
        obtain ⟨a, kvs, rfl, ha, rk, _⟩ := r1
        have e2 := rk.keys
        rw [allIt_ok e] at e2
        refine ⟨a, kvs, ns, rfl, Rd.of ha.1, keys_inl e2, hz, fun ys q hp hs hq => ?_⟩
        have e3 : ys = sortI ns := sorted_unique (hp.trans (sortI_perm ns).symm) hs (sortI_sorted ns)
        rw [e3]
        exact post_newl p hk (RVs.of_ints _) hq
      · exact p.elim
    · exact p.elim
  · exact p.elim
end
end Mv
set_option Elab.async false
set_option linter.all false
set_option maxRecDepth 100000
/-! Mv, part L: names of types, unary minus, is None, lists set to a name on one line. -/
namespace Mv
open PySem PySem.Spec PyProof.Rows L2
section
variable {X : Cx} {g : Gx} {W : WX} {a b : Expr} {ma mb : ME} {pos : Pos} {x : Str}
theorem re_ty (n : BTy) (hg : Gl X x) (hm : X.mg x = none) (hv : bootBuiltins x = some (.type n.name)) (hn : x ≠ "__name__" := by decide) (hd : (x == ("__debug__" : Str)) = false := by decide) : RE X g W (.Name x pos) (cM (.ty n)) :=
  pe_imp (pe_bltn (v := .ty n.name) hg hm hv rfl hn hd) fun σ H Q t => const_imp (fun _ => by simp only [RV]) t
def negM (a : ME) : ME := fun sv h => (a sv h).bind fun x h1 => match x with
  | .int i => .ok (.int (-i)) h1
  | _ => .bad
theorem re_neg (ha : RE X g W a ma) : RE X g W (.UnaryOp .USub a pos) (negM ma) :=
  pe_imp (pe_un un_neg ha) fun σ H Q ⟨w, sv, h, rs, hk, pp⟩ => seqG' rs hk pp fun w1 H1 h1 v y e1 rs1 k1 r1 p1 => by
    split at p1
    · rename_i i
      exact ⟨i, r1.int_eq, post_int p1 k1⟩
    · exact p1.elim
def isNon : VV → Bool
  | .non => true
  | _ => false
theorem isNon_ok {K : PySem.W.Frag} {G : Nat → Addr} {w : Wd} {H : Hp} {x : VV} {y : V} (r : RV K G w H x y) : decide (y = .non) = isNon x := by
  cases x with
  | non => simp only [RV] at r; subst r; rfl
  | tup xs => simp only [RV] at r; obtain ⟨_, _, e, _⟩ := r; subst e; rfl
  | lst xs => simp only [RV] at r; obtain ⟨_, _, e, _⟩ := r; subst e; rfl
  | rol xs => simp only [RV] at r; obtain ⟨_, _, e, _⟩ := r; subst e; rfl
  | dct xs ys => simp only [RV] at r; obtain ⟨_, _, e, _⟩ := r; subst e; rfl
  | ref n => simp only [RV] at r; obtain ⟨_, e, _⟩ := r; subst e; rfl
  | ins c fs => simp only [RV] at r
  | _ => simp only [RV] at r; subst r; rfl
def isN (neg : Bool) : V2 := fun x y h => match y with
  | .non => .ok (.bl (if neg then !isNon x else isNon x)) h
  | _ => .bad
theorem isNS {K : PySem.W.Frag} {g : Gx} : OpS K g (fun x y H Q => y = .non ∧ Q (.bl (decide (x = .non))) H) (isN false) := by
  intro w h H σ W Q x y vx vy hk rx ry p
  unfold isN at p
  split at p
  · refine ⟨by simpa only [RV] using ry, ?_⟩
    rw [isNon_ok rx]
    exact post_bl p hk
  · exact p.elim
theorem isNotNS {K : PySem.W.Frag} {g : Gx} : OpS K g (fun x y H Q => y = .non ∧ Q (.bl (!decide (x = .non))) H) (isN true) := by
  intro w h H σ W Q x y vx vy hk rx ry p
  unfold isN at p
  split at p
  · refine ⟨by simpa only [RV] using ry, ?_⟩
    rw [isNon_ok rx]
    exact post_bl p hk
  · exact p.elim
/-- name = [.. for ..] on one line, the name a local -/
theorem rs_setLc (i : Nat) {y : Str} {py spos : Pos} {tg iter elt : Expr} {ifs : List Expr} {scope : Scope} {mi : MI} {mg : MG} {is : List Nat} {mt : MT} {me : ME} {own : List (Str × Nat)} (hc : X.calm = true) (hN : X.N.Nodup) (hi : RI X g W tg iter mi) (ok : BlkOk X.N X.env.scope scope own) (his : InIs mg is) (hs : ∀ j ∈ is, j ∈ own.map (·.2))
    (hg : ∀ (s : Shared) (H : Hp) (C : Addr) (cl : List (Str × Addr)) (fp : List Addr), RG (X.blk s H scope (compEnvC scope cl C X.env) fp) g tg mg) (ht : ∀ (s : Shared) (H : Hp) (C : Addr) (cl : List (Str × Addr)) (fp : List Addr), RTs (X.blk s H scope (compEnvC scope cl C X.env) fp) g W0 ifs mt)
    (he : ∀ (s : Shared) (H : Hp) (C : Addr) (cl : List (Str × Addr)) (fp : List Addr), RE (X.blk s H scope (compEnvC scope cl C X.env) fp) g W0 elt me) (hy : X.N[i]? = some y := by rfl) (hyl : X.env.scope.names.lookup y = some .local := by rfl) 
    (hsw : swapsWith (.ListComp elt [⟨tg, iter, ifs, 0⟩] scope pos) (some (.Name y py)) spos.line X.env = pure true := by first | exact sw_true rfl rfl rfl rfl | rfl) (hf : ∀ x, foldedSetIterable iter X.env x = pure x := by intro _; rfl) :
    RS X g W (.Assign [.Name y py] (.ListComp elt [⟨tg, iter, ifs, 0⟩] scope pos) spos) (setM i (lcM mi mg (own.map (·.2)) mt me)) :=
  ps_imp (ps_setLc (te := tG X.K g (relV X.K g) me W0) (tt := tG X.K g relB mt W0) (g := tGt X.K g mg) hc hN hy hyl hsw hi ok hg ht he hf) fun D σ H t => by
    obtain ⟨w, sl, h, f, k, p⟩ := t
    refine lc_imp his hs (Q := fun x H1 => gName i x σ H1 D.nx) ?_
    exact seqS f k p fun w1 H1 h1 v y e1 f1 k1 r1 p1 => p1 (w1.drop i) H1 (σ.set i (some y)) drop_ext k1.drop (f1.setv r1)
end
end Mv
set_option Elab.async false
set_option linter.all false
set_option maxRecDepth 100000
/-! Mv, part M: what a text's walk leans on. -/
namespace Mv
open PySem PySem.Spec PyProof.Rows L2

theorem takes0 {X : Cx} : Takes X W0 := fun u s' ⟨_, _, _, _, _, _, _, _, _, _, _, _, _, _, _, _, w⟩ => w.elim
theorem Room.u64 {k : Nat} {A : Around} (r : Room k A) : A.units + 64 < cLine := by
  have := r.un
  have e : cLine = 1000 ∨ True := .inr trivial
  omega
theorem Room.u65 {k : Nat} {A : Around} (r : Room k A) : A.units + 65 < cLine := by
  have := r.un
  omega
/-- a def of the text keeps its mirror, and how it is called -/
def OkF (P : Program) (w : World) (K : PySem.W.Frag) (mg : Str → Option Value) (g : Gx) (k : Nat) (f : Addr) (ps : List Str) (mf : MF) : Prop :=
  ∃ fd, (∀ base : Heap, FnOk P w K mg base (L2.CX P w) k f fd ps (spM K g mf)) ∧ Binds K fd ps [] ∧ PySem.W.keepIn K (.ref f) = true ∧ ∀ (s : Shared) (us : List Value), us.length = ps.length → BindsTo s fd ⟨us, []⟩ (ps.zip us)
theorem fn_bad {P : Program} {w : World} {K : PySem.W.Frag} {mg : Str → Option Value} {base : Heap} {g : Gx} {k : Nat} {f : Addr} {fd : FuncData} {ps : List Str} : FnOk P w K mg base (L2.CX P w) k f fd ps (spM K g fun _ _ => .bad) where
  len := fun vs H Q E ⟨_, _, _, _, _, p⟩ => p.elim
  run := fun A outer s H args us vs Q E _ _ _ _ ⟨_, _, _, _, _, p⟩ => p.elim
section
variable {X : Cx} {g : Gx} {W : WX} {e : Expr} {es : List Expr} {ma : MA} {p pos : Pos} {x : Str} {j k : Nat} {f : Addr} {ps : List Str} {mf : MF}
theorem re_callO (F : OkF X.prog X.w X.K X.mg g j f ps mf) (hr : Room k X.A) (hm : X.mg x = some (.ref f)) (tk : Takes X W) (ha : RA X g W (e :: es) ma) (hj : j ≤ k := by omega) (hg : Gl X x := by rfl)
    (hdb : (x == ("__debug__" : Str)) = false := by decide) (he : starEach (e :: es) X.env = (false, eval e X.env) :: starEach es X.env := by rfl) (hpl : (backTo pos (starEach es X.env)).any (·.1) = false := by rfl) :
    RE X g W (.Call (.Name x p) (e :: es) [] pos) (callF mf ma) := by
  obtain ⟨fd, F, B, kp, _⟩ := F
  exact re_call ((F X.base).mono hj) hr hm kp B tk ha hg hdb he hpl
end
/-- the law itself, behind the head -/
theorem walk_mv {l : PySem.W.OpenLaw} {n k : Nat} {q : Program} {loose : List Str} {XP : (Str → Option Value) → Heap → Prop} {YP : World → Heap → Prop} {d : DefRec} {x : Str} {mf : MF} (h1 : l.most = some n) (h2 : n ≤ sizeLine) (h3 : d.params.defaults = []) (h4 : Room k callerA)
    (F : ∀ (w : World) (mg : Str → Option Value) (fa : Addr) (h : Heap), YP w h → h.Ns mainGlobals mg → mg d.name = some (.ref fa) → ∃ (K : PySem.W.Frag) (g : Gx), K.In h ∧ OkF l.prog w K mg g k fa [x] mf)
    (hm : ∀ ns : List Int, ns.length ≤ n → ∃ h, mf [.rol (ns.map VV.int)] [] = .ok (.bl true) h) : PySem.W.WalkO q loose XP YP l.row.toRowW d [] (fun f vs => PySem.call f vs) := by
  refine Att.attach_call h1 h3 fun w s0 s1 mg mb fa o pm cd doc a vs ns G Y e1 e2 e3 e4 e5 e6 e7 e8 => ?_
  obtain ⟨K, g, KX, fd, ok, _, _, hb⟩ := F w mg fa _ Y G.T.g e4
  refine law_call KX G.T.g G.T.b G.T.builtins G.T.nolimit e8 e5 e6 (Nat.le_trans e7 h2) h4 (fun base _ _ => ok base) (fun s u => hb s [u] rfl) (fun H hO hS => ?_) fun H e s' c => ?_
  · obtain ⟨hh, em⟩ := hm ns e7
    have wd : Wd := ⟨[], fun _ => False, []⟩
    refine ⟨⟨[], fun _ => False, []⟩, [], [.rol (ns.map VV.int)], ⟨rfl, fun _ _ _ z => by simp at z, fun _ _ z => by simp at z, fun _ _ z => by simp at z, fun _ z => by simp at z, fun _ z => z.elim, fun _ _ _ z => by simp at z, fun b o e => by
      rcases hO b with z | ⟨_, _, z⟩
      · rw [z] at e; cases e
      · rw [z] at e; cases e; trivial⟩, ?_, ?_⟩
    · have nm : ∀ b, ¬ (⟨[], fun _ => False, []⟩ : Wd).mut b := fun b z => by
        rcases z with z | z | z
        · cases z
        · exact z
        · cases z
      simp only [RVs, RV]
      refine ⟨_, [], rfl, ⟨a, ns.map V.int, rfl, ?_, RVs.of_ints ns⟩, rfl⟩
      rcases hS with hS | hS
      · left
        rcases hS with hS | ⟨o, hS⟩
        · rcases hO a with z | ⟨o, xs, z⟩
          · rw [z] at hS; cases hS
          · rw [z] at hS; cases hS
        · exact ⟨o, hS, nm a⟩
      · exact .inr hS
    · rw [em]
      intro w' H' y ex k' r
      simpa only [relV, RV] using r
  · obtain ⟨_, _, _, _, _, _, _, _, _, _, _, _, z⟩ := c
    exact z
/-- what the head tells -/
structure Hy (fa : List He.Fa) (fn : List He.DefD) (ex : PySem.W.Frag → Bool) (K : PySem.W.Frag) (mg : Str → Option Value) : Prop where
  c : He.SaysD fa fn K
  x : ex K = true
  h : ∃ h : Heap, K.In h ∧ h.Ns mainGlobals mg
section
variable {fa : List He.Fa} {fn : List He.DefD} {ex : PySem.W.Frag → Bool} {K : PySem.W.Frag} {mg : Str → Option Value} {x : Str}
theorem Hy.glo (y : Hy fa fn ex K mg) (i : Nat) (e : fa[i]? = some (.glo x) := by rfl) : mg x = some (.ref (He.ga K x)) := by
  obtain ⟨h, a, b⟩ := y.h
  exact He.glo_ok a b (y.c.fact i e)
theorem Hy.free (y : Hy fa fn ex K mg) (i : Nat) (e : fa[i]? = some (.free x) := by rfl) : mg x = none := by
  obtain ⟨h, a, b⟩ := y.h
  exact He.free_ok a b (y.c.fact i e)
theorem Hy.int (y : Hy fa fn ex K mg) (i : Nat) {n : Int} (e : fa[i]? = some (.int x n) := by rfl) : ∃ t, mg x = some (.int n t) := by
  obtain ⟨h, a, b⟩ := y.h
  exact He.int_ok a b (y.c.fact i e)
/-- a second name of what stands under y -/
def aliB (K : PySem.W.Frag) (x z : Str) : Bool := decide (PySem.W.nsIn K mainGlobals x = some (some (.ref (He.ga K z))))
theorem Hy.ali (y : Hy fa fn ex K mg) {z : Str} (e : aliB K x z = true) : mg x = some (.ref (He.ga K z)) := by
  obtain ⟨h, a, b⟩ := y.h
  exact PySem.W.mg_of a b (of_decide_eq_true e)
/-- the i-th of the further facts -/
def exL (l : List (PySem.W.Frag → Bool)) (K : PySem.W.Frag) : Bool := l.all fun f => f K
theorem exL_at {l : List (PySem.W.Frag → Bool)} {K : PySem.W.Frag} (h : exL l K = true) (i : Nat) {f : PySem.W.Frag → Bool} (e : l[i]? = some f) : f K = true := List.all_eq_true.mp h f (List.mem_of_getElem? e)
/-- a built-in under a module's name -/
def bltB (K : PySem.W.Frag) (x : Str) (id : String) : Bool := decide (PySem.W.nsIn K mainGlobals x = some (some (.builtin id)))
theorem Hy.blt (y : Hy fa fn ex K mg) {id : String} (e : bltB K x id = true) : mg x = some (.builtin id) := by
  obtain ⟨h, a, b⟩ := y.h
  exact PySem.W.mg_of a b (of_decide_eq_true e)
end
end Mv
set_option Elab.async false
set_option linter.all false
set_option maxRecDepth 100000
/-! Mv, part N: {k: v for .. in .. for .. in ..}. -/
namespace Mv
open PySem PySem.Spec PyProof.Rows L2

/-! ### the code -/
abbrev dcE (kx vx t0 i0 t1 i1 : Expr) (scope : Scope) (pos : Pos) : Expr := .DictComp kx vx [⟨t0, i0, [], 0⟩, ⟨t1, i1, [], 0⟩] scope pos
section
variable {prog : Program} {w : World} {A : Around} {R : Result → Shared → Prop} {s : Shared} {kx vx t0 i0 t1 i1 : Expr} {scope : Scope} {pos : Pos} {it acc : Value} {D : Addr} {env : Env}
abbrev Nb (prog : Program) (w : World) (A : Around) (env : Env) (R : Result → Shared → Prop) : Value → Shared → Prop := notedBy (model prog w) A env fun e s' => R (.error e) s'
theorem dcE_turn0 : compTurn (dcE kx vx t0 i0 t1 i1 scope pos) 0 it acc env = (do
    standAt i0.pos
    match ← pyNext it with
    | none => pure (.done .next)
    | some v => do
      letOwnedTupleGo t0 it v
      assign t0 env v
      let x ← eval i1 env
      standAt i1.pos
      let x ← foldedSetIterable i1 env x
      let _ ← runOwn (.compStart (dcE kx vx t0 i0 t1 i1 scope pos) 1 (← holding [x] (pyIter x)) acc env) env
      again (.compLoop (dcE kx vx t0 i0 t1 i1 scope pos) 0 it acc env)) := by rfl
theorem dcE_turn1 : compTurn (dcE kx vx t0 i0 t1 i1 scope pos) 1 it (.ref D) env = (do
    standAt i1.pos
    match ← pyNext it with
    | none => pure (.done .next)
    | some v => do
      letOwnedTupleGo t1 it v
      assign t1 env v
      (do
        let kv ← eval kx env
        let vv ← holding [kv] (eval vx env)
        standAt { kx.pos with endLine := vx.pos.endLine, endCol := vx.pos.endCol }
        holding [kv, vv] (dictSet D kv vv))
      again (.compLoop (dcE kx vx t0 i0 t1 i1 scope pos) 1 it (.ref D) env)) := by rfl
/-- the first clause's loop -/
theorem dcE_out (hs : ∀ x, foldedSetIterable i1 env x = pure x) (I : Nat → Shared → Prop)
    (turn : ∀ n s, I n s → wpAny (model prog w) A (pyNext it) (fun r s1 => match r with
      | none => R (.ok .next) s1
      | some v => wpAny (model prog w) A (letOwnedTupleGo t0 it v) (fun _ s2 => wpAny (model prog w) A (assign t0 env v) (fun _ s3 => wpAny (model prog w) A (eval i1 env) (fun x s4 => wpAny (model prog w) A (pyIter x) (fun it1 s5 =>
          codeAny (model prog w) A (.compStart (dcE kx vx t0 i0 t1 i1 scope pos) 1 it1 acc env) (fun r s' => match r with
            | .ok _ => ∃ m, m < n ∧ I m s'
            | .error _ => False) s5) (Nb prog w A env R) s4) (Nb prog w A env R) s3) (Nb prog w A env R) s2) (Nb prog w A env R) s1) (Nb prog w A env R) s)
    (n : Nat) (h : I n s) : codeAny (model prog w) A (.compLoop (dcE kx vx t0 i0 t1 i1 scope pos) 0 it acc env) R s := by
  refine codeAny_loop rfl I (fun n s hI => ?_) n h
  show wpAny _ A ((compTurn (dcE kx vx t0 i0 t1 i1 scope pos) 0 it acc env).onRaise (fun x => do noteFrame x env; theTreesLotGoes x)) _ _ s
  refine wpAny_noted ?_
  rw [dcE_turn0]
  refine wpAny_bind (wpAny_standAt (wpAny_bind (wpAny_mono (turn n s hI) (fun r s1 h1 => ?_) fun _ _ z => z)))
  cases r with
  | none => exact wpAny_pure h1
  | some v =>
    refine wpAny_bind (wpAny_mono h1 (fun _ s2 h2 => wpAny_bind (wpAny_mono h2 (fun _ s3 h3 => wpAny_bind (wpAny_mono h3 (fun x s4 h4 => ?_) fun _ _ z => z)) fun _ _ z => z)) fun _ _ z => z)
    refine wpAny_bind (wpAny_standAt (wpAny_bind (wpAny_of_eq (hs x) (wpAny_bind (wpAny_holding (wpAny_mono h4 (fun it1 s5 h5 => wpAny_bind (wpAny_runOwn ?_)) fun _ _ z => z))))))
    rw [Around.mark_none]
    refine codeAny_mono h5 fun r s' hr => ?_
    cases r with
    | ok f => first | exact wpAny_pure ⟨rfl, hr⟩ | exact wpAny_bind (wpAny_pure (wpAny_pure ⟨rfl, hr⟩))
    | error e => exact hr.elim
/-- the second one's -/
theorem dcE_in (I : Nat → Shared → Prop)
    (turn : ∀ n s, I n s → wpAny (model prog w) A (pyNext it) (fun r s1 => match r with
      | none => R (.ok .next) s1
      | some v => wpAny (model prog w) A (letOwnedTupleGo t1 it v) (fun _ s2 => wpAny (model prog w) A (assign t1 env v) (fun _ s3 => wpAny (model prog w) A (eval kx env) (fun kv s4 => wpAny (model prog w) A (eval vx env) (fun vv s5 =>
          wpAny (model prog w) A (dictSet D kv vv) (fun _ s6 => ∃ m, m < n ∧ I m s6) (Nb prog w A env R) s5) (Nb prog w A env R) s4) (Nb prog w A env R) s3) (Nb prog w A env R) s2) (Nb prog w A env R) s1) (Nb prog w A env R) s)
    (n : Nat) (h : I n s) : codeAny (model prog w) A (.compLoop (dcE kx vx t0 i0 t1 i1 scope pos) 1 it (.ref D) env) R s := by
  refine codeAny_loop rfl I (fun n s hI => ?_) n h
  show wpAny _ A ((compTurn (dcE kx vx t0 i0 t1 i1 scope pos) 1 it (.ref D) env).onRaise (fun x => do noteFrame x env; theTreesLotGoes x)) _ _ s
  refine wpAny_noted ?_
  rw [dcE_turn1]
  refine wpAny_bind (wpAny_standAt (wpAny_bind (wpAny_mono (turn n s hI) (fun r s1 h1 => ?_) fun _ _ z => z)))
  cases r with
  | none => exact wpAny_pure h1
  | some v =>
    refine wpAny_bind (wpAny_mono h1 (fun _ s2 h2 => wpAny_bind (wpAny_mono h2 (fun _ s3 h3 => ?_) fun _ _ z => z)) fun _ _ z => z)
    exact wpAny_bind (wpAny_bind (wpAny_mono h3 (fun kv s4 h4 => wpAny_bind (wpAny_holding (wpAny_mono h4 (fun vv s5 h5 => wpAny_bind (wpAny_standAt (wpAny_holding (wpAny_mono h5 (fun _ s6 h6 => wpAny_pure ⟨rfl, h6⟩) fun _ _ z => z)))) fun _ _ z => z))) fun _ _ z => z))
/-- the second clause begins -/
theorem dcE_start1 (h0 : codeAny (model prog w) A (.compLoop (dcE kx vx t0 i0 t1 i1 scope pos) 1 it acc env) R s)
    (h : wpAny (model prog w) A (pyIter it) (fun it' s' => codeAny (model prog w) A (.compLoop (dcE kx vx t0 i0 t1 i1 scope pos) 1 it' acc env) R s') (Nb prog w A env R) s) :
    codeAny (model prog w) A (.compStart (dcE kx vx t0 i0 t1 i1 scope pos) 1 it acc env) R s := by
  refine codeAny_of_tree ?_
  show wpAny _ _ ((compStart (dcE kx vx t0 i0 t1 i1 scope pos) 1 it acc env).onRaise (fun x => do noteFrame x env; standAt theWindowsPlace)) _ _ s
  refine wpAny_notedAt ?_
  unfold compStart
  show wpAny _ _ (ask >>= _) _ _ s
  refine wpAny_bind (wpAny_askSetting (wpAny_ite ?_))
  split
  · first | exact wpAny_bind (wpAny_pure (wpAny_pure (And.intro rfl h0))) | exact wpAny_pure (And.intro rfl h0)
  · first
      | exact wpAny_bind (wpAny_rule (wpAny_bind (wpAny_standAt (wpAny_bind (wpAny_mono h (fun it' s' z => wpAny_pure (And.intro rfl z)) fun _ _ z => z)))))
      | (refine wpAny_bind (wpAny_rule ?_); show wpAny _ _ (standAt i1.pos >>= _) _ _ s; exact wpAny_bind (wpAny_standAt (wpAny_bind (wpAny_mono h (fun it' s' z => wpAny_pure (And.intro rfl z)) fun _ _ z => z))))
end

/-! ### its reading -/
abbrev TK2 := L2.St → Hp → (Hp → Prop) → Prop
/-- one turn of the second clause: the dict at D grows -/
def tPut (tk tv : TE) (D : Addr) : TK2 := fun σ H N => tk σ H fun y H1 => tv σ H1 fun z H2 => ∃ kvs k, y = kV k ∧ H2 D = some (.dK kvs) ∧ kvs.length < sizeLine ∧ N (upd H2 D (.dK (putK kvs k z)))
/-- the second clause's loop, from σ: it reaches N -/
def tIn (wi1 : TI) (g1 : TG) (tp : TK2) (vs1 : List Nat) : TK2 := fun σ H N => wi1 σ H fun J H1 => ∃ W : Nat → Nat → Hp → Prop, (∃ m, W 0 m H1) ∧ ∀ j k H, W j k H →
  (J.stop j H ∧ N H) ∨ (J.go j H ∧ ∃ N1 : Hp → Prop, (∀ H', N1 H' → ∃ k', k' < k ∧ W (j + 1) k' H') ∧ ∀ x H', J.yld j H x H' → g1 x (wipe σ vs1) H' fun σ3 H5 => wipe σ3 vs1 = wipe σ vs1 ∧ tp σ3 H5 N1)
def tDc2 (wi : TI) (g : TG) (wi1 : TI) (g1 : TG) (tk tv : TE) (vs vs1 : List Nat) : TE := fun σ H Q => wi σ H fun J H1 => ∀ D, H1 D = none → ∃ W : Nat → Nat → Hp → Prop, (∃ m, W 0 m (upd H1 D (.dK []))) ∧ ∀ i m H, W i m H →
  (J.stop i H ∧ Q (.ref D) H) ∨ (J.go i H ∧ ∃ N : Hp → Prop, (∀ H', N H' → ∃ m', m' < m ∧ W (i + 1) m' H') ∧ ∀ x H', J.yld i H x H' → g x (wipe σ vs) H' fun σ2 H2 => wipe σ2 vs = wipe σ vs ∧ tIn wi1 g1 (tPut tk tv D) vs1 σ2 H2 N)
section
variable {X : Cx}
/-- what is known of σ after a wipe is known of τ -/
def Knows (σ τ : L2.St) : Prop := σ.length = τ.length ∧ ∀ (j : Nat) v, σ[j]? = some (some v) → τ[j]? = some (some v)
theorem knows_of {σ τ : L2.St} {vs : List Nat} (e : wipe τ vs = wipe σ vs) : Knows (wipe σ vs) τ := ⟨by rw [← e, wipe_length], fun j v q => by rw [← e] at q; exact (wipe_some q).1⟩
theorem knows_wipe {σ τ : L2.St} {vs vs1 : List Nat} (hv : ∀ i ∈ vs1, i ∈ vs) (e : wipe τ vs = wipe σ vs) : Knows (wipe σ vs) (wipe τ vs1) := ⟨by rw [← e, wipe_length, wipe_length], fun j v q => by
  rw [← e] at q
  obtain ⟨e1, e2⟩ := wipe_some q
  rw [wipe_out fun z => e2 (hv j z)]
  exact e1⟩
theorem dc2_core {pins : List (Addr × Obj)} {s : Shared} {σ : L2.St} {H : Hp} {Q : VK} {kx vx tg iter tg1 iter1 : Expr} {scope : Scope} {own : List (Str × Nat)} {vs1 : List Nat} {pos pos' : Pos} {wi wi1 : TI} {g g1 : TG} {tk tv : TE} {use : Option (Value → Sem Unit)} {Qf : Value → Shared → Prop}
    (hc : X.calm = true) (hN : X.N.Nodup) (I : Inv X pins σ H s) (hi : PI X tg iter wi) (ok : BlkOk X.N X.env.scope scope own) (hv : ∀ i ∈ vs1, i ∈ own.map (·.2))
    (hg : ∀ (s : Shared) (H : Hp) (C : Addr) (cl : List (Str × Addr)) (fp : List Addr), PG (X.blk s H scope (compEnvC scope cl C X.env) fp) tg g)
    (hi1 : ∀ (s : Shared) (H : Hp) (C : Addr) (cl : List (Str × Addr)) (fp : List Addr), PI (X.blk s H scope (compEnvC scope cl C X.env) fp) tg1 iter1 wi1)
    (hg1 : ∀ (s : Shared) (H : Hp) (C : Addr) (cl : List (Str × Addr)) (fp : List Addr), PG (X.blk s H scope (compEnvC scope cl C X.env) fp) tg1 g1)
    (hk : ∀ (s : Shared) (H : Hp) (C : Addr) (cl : List (Str × Addr)) (fp : List Addr), PE (X.blk s H scope (compEnvC scope cl C X.env) fp) kx tk)
    (he : ∀ (s : Shared) (H : Hp) (C : Addr) (cl : List (Str × Addr)) (fp : List Addr), PE (X.blk s H scope (compEnvC scope cl C X.env) fp) vx tv)
    (hs : ∀ x, foldedSetIterable iter X.env x = pure x) (hs1 : ∀ env x, foldedSetIterable iter1 env x = pure x) (h : tDc2 wi g wi1 g1 tk tv (own.map (·.2)) vs1 σ H Q)
    (hRR : ∀ D C s' m H', Inv X pins σ H' s' → Q (.ref D) H' → s'.heap.Ns C m → FpOk X pins H' C → compPost (model X.prog X.w) X.A X.xe use Qf (.ref D) C (.ok .next) s') :
    wpAny (model X.prog X.w) X.A (comprehension (dcE kx vx tg iter tg1 iter1 scope pos) scope X.env pos' newDict false (eval iter X.env) use) Qf X.xe s := by
  have fr : ∀ y ∈ scope.names, y.2 = .free → ∃ c, X.env.cells.lookup y.1 = some c := fun y hy e => (ok.free y hy e).elim (fun k => I.ok.has _ (.inl k)) fun k => I.ok.has _ (.inr k)
  refine wpAny_comprehension_free (use := use) rfl hs (closure_ok fr) ok.kind (fun y hy e => by rw [ok.uniq y hy, e]) (thn (hi.run pins s σ H _ I h) fun xv s1 hx => thn hx fun itv s2 h2 => ?_)
  obtain ⟨it, fp, tn, J, H2, e, I2, T, st2, f2, q⟩ := h2
  subst e
  refine wpAny_newObj_type (newEnv_comp ?_)
  -- the new dict at D
  generalize hD : s2.heap.objs.size = D
  have hDn : H2 D = none := I2.hok.fresh (Nat.le_of_eq hD)
  obtain ⟨W, ⟨m0, w0⟩, turn⟩ := q D hDn
  generalize hs3 : ({ s2 with heap := s2.heap.push { cls := .type "dict", data := .dict #[] } } : Shared) = s3
  have h3 : s3.heap = s2.heap.push { cls := .type "dict", data := .dict #[] } := by rw [← hs3]
  have I3 : Inv X pins σ (upd H2 D (.dK [])) s3 := by
    have em := dk_empty (P := X.prog) (w := X.w) (H := upd H2 s2.heap.objs.size (.dK [])) s2.heap I2.big
    rw [hD] at em
    rw [← hs3]
    exact I2.laid (t' := s2.toks) (fun b o e => Heap.get?_push_of_some _ e) (Nat.le_of_eq hD) em
  have f3 : ∀ b ∈ fp, FpOk X pins (upd H2 D (.dK [])) b ∧ b < s3.heap.objs.size := fun b hb => by
    obtain ⟨o, eo, _⟩ := T.obj _ _ st2 b hb
    have hlt := Heap.lt_size eo
    exact ⟨⟨(upd_ne (by rw [← hD]; exact Nat.ne_of_lt hlt)).trans (f2 b hb).1, (f2 b hb).2⟩, by rw [h3, Heap.size_push]; exact Nat.lt_succ_of_lt hlt⟩
  have st3 : tn 0 s3.heap := T.keep _ _ _ st2 fun b _ o e => by rw [h3]; exact Heap.get?_push_of_some _ e
  have I4 := block_start I3 ok hN f3
  -- the block's own readings
  have rg := hg s3 (upd H2 D (.dK [])) s3.heap.objs.size (cellsFrom (s3.heap.objs.size + 1) scope.names (cloFrom X.env.cells scope.names [])) fp
  have rg1 := hg1 s3 (upd H2 D (.dK [])) s3.heap.objs.size (cellsFrom (s3.heap.objs.size + 1) scope.names (cloFrom X.env.cells scope.names [])) fp
  have ri1 := hi1 s3 (upd H2 D (.dK [])) s3.heap.objs.size (cellsFrom (s3.heap.objs.size + 1) scope.names (cloFrom X.env.cells scope.names [])) fp
  have rk := hk s3 (upd H2 D (.dK [])) s3.heap.objs.size (cellsFrom (s3.heap.objs.size + 1) scope.names (cloFrom X.env.cells scope.names [])) fp
  have re := he s3 (upd H2 D (.dK [])) s3.heap.objs.size (cellsFrom (s3.heap.objs.size + 1) scope.names (cloFrom X.env.cells scope.names [])) fp
  show codeAny _ _ (.compStart (dcE kx vx tg iter tg1 iter1 scope pos) 0 (.ref it) (.ref D) (compEnvC scope (cellsFrom (s3.heap.objs.size + 1) scope.names (cloFrom X.env.cells scope.names [])) s3.heap.objs.size X.env)) (compPost (model X.prog X.w) X.A X.xe use Qf (.ref D) s3.heap.objs.size) { s3 with heap := pushCells (s3.heap.push { cls := .type "dict", data := .dict #[] }) scope.names }
  generalize hce : compEnvC scope (cellsFrom (s3.heap.objs.size + 1) scope.names (cloFrom X.env.cells scope.names [])) s3.heap.objs.size X.env = ce at I4 rg rg1 ri1 rk re ⊢
  have cL : ce.locals = s3.heap.objs.size := by subst hce; rfl
  generalize hH3 : upd H2 D (.dK []) = H3 at I3 I4 rg rg1 ri1 rk re w0 f3
  generalize hs4 : ({ s3 with heap := pushCells (s3.heap.push { cls := .type "dict", data := .dict #[] }) scope.names } : Shared) = s4 at I4 ⊢
  generalize hY : X.blk s3 H3 scope ce fp = Y at I4 rg rg1 ri1 rk re
  have st4 : tn 0 s4.heap := T.keep _ _ _ st3 fun b _ o e => by rw [← hs4]; exact pushCells_keeps _ _ _ _ (Heap.get?_push_of_some _ e)
  have stat : ∀ {σ' : L2.St} {H' : Hp} {s' : Shared}, Inv Y [] σ' H' s' → (∀ b ∈ fp, H' b = none) → ∀ b ∈ fp, FpOk Y [] H' b := fun {σ' H' s'} I' hn b hb => by
    subst hY
    exact ⟨hn b hb, (I'.ok.exf b hb).1, I'.ok.exfs b hb, .inl hb, fun x c e => (I'.ok.exf b hb).2 x c e, fun p hp => absurd (show p ∈ ([] : List (Addr × Obj)) ++ [] from hp) (by simp)⟩
  have loop : codeAny (model X.prog X.w) X.A (.compLoop (dcE kx vx tg iter tg1 iter1 scope pos) 0 (.ref it) (.ref D) ce) (compPost (model X.prog X.w) X.A X.xe use Qf (.ref D) s3.heap.objs.size) s4 := by
    refine dcE_out (hs1 ce) (fun n s' => ∃ i H', Inv Y [] (wipe σ (own.map (·.2))) H' s' ∧ tn i s'.heap ∧ (∀ b ∈ fp, H' b = none) ∧ W i n H') ?_ m0 ⟨0, H3, I4, st4, fun b hb => (f3 b hb).1.1, w0⟩
    rintro n s5 ⟨i, H5, I5, st5, n5, w5⟩
    rcases turn i n H5 w5 with ⟨stop, qq⟩ | ⟨go, Nx, hNx, step⟩
    · -- the end: back in the def
      subst hY
      refine thnF (T.done (X.blk s3 H3 scope ce fp) rfl rfl rfl hc i [] s5 _ H5 (fun _ _ => False) I5 (stat I5 n5) st5 stop) fun r s6 ⟨hr, I6⟩ => ?_
      subst hr
      have I7 : Inv X pins σ H5 s6 := I3.call' (ch := fp) I6.os I6.base I6.hok I6.bare fun b hb => ⟨(f3 b hb).1.2.2.2.1, (f3 b hb).1.2.1, (f3 b hb).1.2.2.2.2.1, (f3 b hb).1.2.2.2.2.2⟩
      have nC : H5 s3.heap.objs.size = none := by
        have z : H5 ce.locals = none := I6.free
        rwa [cL] at z
      obtain ⟨m, hn, _⟩ := I6.loc
      have hn : s6.heap.Ns ce.locals m := hn
      rw [cL] at hn
      exact hRR D s3.heap.objs.size s6 m H5 I7 qq hn (I3.fpOk (Nat.le_refl _) nC)
    · -- a turn
      subst hY
      refine thnF (T.item (X.blk s3 H3 scope ce fp) rfl rfl rfl hc i [] s5 _ H5 (fun _ _ => False) I5 (stat I5 n5) st5 go) fun r s6 ⟨u, hr, h6⟩ => ?_
      subst hr
      refine thnF h6 fun _ s7 ⟨x, H7, I7, r7, y7, st7, n7⟩ => ?_
      have I7' := I7.pinned (stat I7 n7) (T.obj _ _ st7)
      refine thnF (rg.run _ s7 _ H7 x u _ I7' r7 (step x H7 y7)) fun _ s8 ⟨σ8, H8, I8, hw8, q8⟩ => ?_
      -- from slots that know the wiped ones back to the loop's head
      have back : ∀ {τ : L2.St} {s' : Shared} {H' : Hp}, Inv (X.blk s3 H3 scope ce fp) ([] ++ pinsAt fp s7.heap) τ H' s' → Knows (wipe σ (own.map (·.2))) τ → Nx H' →
          ∃ m, m < n ∧ ∃ i H', Inv (X.blk s3 H3 scope ce fp) [] (wipe σ (own.map (·.2))) H' s' ∧ tn i s'.heap ∧ (∀ b ∈ fp, H' b = none) ∧ W i m H' := fun {τ s' H'} I' kn nx => by
        obtain ⟨m', hm, w'⟩ := hNx H' nx
        have pin' : ∀ b ∈ fp, ∀ o, s7.heap.get? b = some o → s'.heap.get? b = some o ∧ H' b = none := fun b hb o e => ⟨(I'.pin (b, o) (List.mem_append_right _ (List.mem_append_right _ (mem_pinsAt hb e)))).1, (I'.pin (b, o) (List.mem_append_right _ (List.mem_append_right _ (mem_pinsAt hb e)))).2.1⟩
        refine ⟨m', hm, i + 1, H', (I'.unpinned (pins := [])).weak kn.1 kn.2, T.keep _ _ _ st7 fun b hb o e => (pin' b hb o e).1, fun b hb => ?_, w'⟩
        obtain ⟨o, e, _⟩ := T.obj _ _ st7 b hb
        exact (pin' b hb o e).2
      refine thnF (ri1.run _ s8 σ8 H8 _ I8 q8) fun xv s10 hx => thnF hx fun itv s11 h11 => ?_
      obtain ⟨it1, fp1, tn1, J1, H11, e1, I11, T1, st11, f11, W1, ⟨m1, w1⟩, turn1⟩ := h11
      subst e1
      have stat1 : ∀ {H' : Hp}, (∀ b ∈ fp1, H' b = none) → ∀ b ∈ fp1, FpOk (X.blk s3 H3 scope ce fp) ([] ++ pinsAt fp s7.heap) H' b := fun hn b hb => ⟨hn b hb, (f11 b hb).2⟩
      have loop1 : codeAny (model X.prog X.w) X.A (.compLoop (dcE kx vx tg iter tg1 iter1 scope pos) 1 (.ref it1) (.ref D) ce) (fun r s' => match r with
          | .ok _ => ∃ m, m < n ∧ ∃ i H', Inv (X.blk s3 H3 scope ce fp) [] (wipe σ (own.map (·.2))) H' s' ∧ tn i s'.heap ∧ (∀ b ∈ fp, H' b = none) ∧ W i m H'
          | .error _ => False) s11 := by
        refine dcE_in (fun k s' => ∃ j H', Inv (X.blk s3 H3 scope ce fp) ([] ++ pinsAt fp s7.heap) (wipe σ8 vs1) H' s' ∧ tn1 j s'.heap ∧ (∀ b ∈ fp1, H' b = none) ∧ W1 j k H') ?_ m1 ⟨0, H11, I11.weak (wipe_length _ _) (fun j v e => (wipe_some e).1), st11, fun b hb => (f11 b hb).1, w1⟩
        rintro k s12 ⟨j, H12, I12, st12, n12, w12⟩
        rcases turn1 j k H12 w12 with ⟨stop1, nx1⟩ | ⟨go1, Nx1, hNx1, step1⟩
        · refine thnF (T1.done (X.blk s3 H3 scope ce fp) rfl rfl rfl hc j _ s12 (wipe σ8 vs1) H12 (fun _ _ => False) I12 (stat1 n12) st12 stop1) fun r s13 ⟨hr, I13⟩ => ?_
          subst hr
          exact back I13 (knows_wipe hv hw8) nx1
        · refine thnF (T1.item (X.blk s3 H3 scope ce fp) rfl rfl rfl hc j _ s12 (wipe σ8 vs1) H12 (fun _ _ => False) I12 (stat1 n12) st12 go1) fun r s13 ⟨u1, hr, h13⟩ => ?_
          subst hr
          refine thnF h13 fun _ s14 ⟨x1, H14, I14, r14, y14, st14, n14⟩ => ?_
          have I14' := I14.pinned (stat1 n14) (T1.obj _ _ st14)
          refine thnF (rg1.run _ s14 (wipe σ8 vs1) H14 x1 u1 _ I14' r14 (step1 x1 H14 y14)) fun _ s15 ⟨σ15, H15, I15, hw15, q15⟩ => ?_
          refine thnF (rk.run _ s15 σ15 H15 _ I15 q15) fun kz s16 ⟨yk, H16, I16, rk16, q16⟩ => ?_
          refine thnF (re.run _ s16 σ15 H16 _ I16 q16) fun vz s17 ⟨yv, H17, I17, rv17, kvs, kk, ek, hD17, hz17, nx⟩ => ?_
          subst ek
          refine d_dictSet (X := X.blk s3 H3 scope ce fp) I17 hD17 hz17 rk16 rv17 fun s18 I18 => ?_
          obtain ⟨m', hm, w'⟩ := hNx1 _ nx
          have pin' : ∀ b ∈ fp1, ∀ o, s14.heap.get? b = some o → s18.heap.get? b = some o ∧ (upd H17 D (.dK (putK kvs kk yv))) b = none := fun b hb o e => ⟨(I18.pin (b, o) (List.mem_append_right _ (List.mem_append_right _ (mem_pinsAt hb e)))).1, (I18.pin (b, o) (List.mem_append_right _ (List.mem_append_right _ (mem_pinsAt hb e)))).2.1⟩
          refine ⟨m', hm, j + 1, _, I18.unpinned.weak (knows_of hw15).1 (knows_of hw15).2, T1.keep _ _ _ st14 fun b hb o e => (pin' b hb o e).1, fun b hb => ?_, w'⟩
          obtain ⟨o, e, _⟩ := T1.obj _ _ st14 b hb
          exact (pin' b hb o e).2
      exact dcE_start1 loop1 (T1.self X.A 0 _ _ _ st11 loop1)
  exact codeAny_compStart_dict loop (T.self X.A 0 _ _ _ st4 loop)
theorem pe_dc2 {kx vx tg iter tg1 iter1 : Expr} {scope : Scope} {own : List (Str × Nat)} {vs1 : List Nat} {pos : Pos} {wi wi1 : TI} {g g1 : TG} {tk tv : TE} (hc : X.calm = true) (hN : X.N.Nodup) (hi : PI X tg iter wi) (ok : BlkOk X.N X.env.scope scope own) (hv : ∀ i ∈ vs1, i ∈ own.map (·.2))
    (hg : ∀ (s : Shared) (H : Hp) (C : Addr) (cl : List (Str × Addr)) (fp : List Addr), PG (X.blk s H scope (compEnvC scope cl C X.env) fp) tg g)
    (hi1 : ∀ (s : Shared) (H : Hp) (C : Addr) (cl : List (Str × Addr)) (fp : List Addr), PI (X.blk s H scope (compEnvC scope cl C X.env) fp) tg1 iter1 wi1)
    (hg1 : ∀ (s : Shared) (H : Hp) (C : Addr) (cl : List (Str × Addr)) (fp : List Addr), PG (X.blk s H scope (compEnvC scope cl C X.env) fp) tg1 g1)
    (hk : ∀ (s : Shared) (H : Hp) (C : Addr) (cl : List (Str × Addr)) (fp : List Addr), PE (X.blk s H scope (compEnvC scope cl C X.env) fp) kx tk)
    (he : ∀ (s : Shared) (H : Hp) (C : Addr) (cl : List (Str × Addr)) (fp : List Addr), PE (X.blk s H scope (compEnvC scope cl C X.env) fp) vx tv)
    (hs : ∀ x, foldedSetIterable iter X.env x = pure x := by intro _; rfl) (hs1 : ∀ env x, foldedSetIterable iter1 env x = pure x := by intro _ _; rfl) :
    PE X (dcE kx vx tg iter tg1 iter1 scope pos) (tDc2 wi g wi1 g1 tk tv (own.map (·.2)) vs1) := by
  refine ⟨fun pins s σ H Q I h => ?_⟩
  rw [arm_eval_DictComp]
  refine dc2_core hc hN I hi ok hv hg hi1 hg1 hk he hs hs1 h fun D C s' m H' I' q hn f => ⟨m, hn, fun h'' sb => ?_⟩
  obtain ⟨f0, f1, f2, f3, f4, f5⟩ := f
  exact ⟨.ref D, H', I'.turned (t' := s'.toks) (fun b o hb e => (sb.2 b hb).trans e) f0 f1 f3 f4 f5, rfl, q⟩
end
end Mv
set_option Elab.async false
set_option linter.all false
set_option maxRecDepth 100000
/-! Mv, part O: mirrors of {k: v for .. in .. for .. in ..}. -/
namespace Mv
open PySem PySem.Spec PyProof.Rows L2

def dc1Go (sv : Sv) (mg : MG) (ek ev : ME) : List VV → KVs → VH → Out KVs
  | [], d, h => .ok d h
  | v :: r, d, h => match mg v with
    | none => .bad
    | some asg => (ek (setsV asg sv) h).nox.bind fun x h2 => (ev (setsV asg sv) h2).nox.bind fun y h3 => (match keyOf x with
        | some _ => dc1Go sv mg ek ev r (putL d.1 d.2 x y) h3
        | none => .bad)
def dc2Go (sv : Sv) (mg : MG) (it1 : MI) (mg1 : MG) (vs1 : List Nat) (ek ev : ME) : List VV → KVs → VH → Out KVs
  | [], d, h => .ok d h
  | v :: r, d, h => match mg v with
    | none => .bad
    | some asg => (it1 (setsV asg sv) h).nox.bind fun items h1 => if fits (d.1.length + items.length) then (dc1Go (wipeS (setsV asg sv) vs1) mg1 ek ev items d h1).bind fun d2 h2 => dc2Go sv mg it1 mg1 vs1 ek ev r d2 h2 else .bad
def dc2M (it : MI) (mg : MG) (it1 : MI) (mg1 : MG) (vs vs1 : List Nat) (ek ev : ME) : ME := fun sv h => (it sv h).bind fun items h1 => (dc2Go (wipeS sv vs) mg it1 mg1 vs1 ek ev items ([], []) h1).bind fun d h2 => .ok (.dct d.1 d.2) h2
section
variable {X : Cx} {g : Gx} {W : WX} {mg mg1 : MG} {is is1 : List Nat} {mi mi1 : MI} {mk mv : ME}
/-- a dict at D under way -/
structure DAt (K : PySem.W.Frag) (g : Gx) (w1 : Wd) (H1 : Hp) (D : Addr) (w : Wd) (H : Hp) (h : VH) (d : KVs) (n : Nat) : Prop where
  gd : Gd w1 H1 D w H
  hk : Hk K g.adr w h H
  at_ : ∃ kvs : List (Key × V), H D = some (.dK kvs) ∧ RVs K g.adr w H d.1 (kvs.map fun p => kV p.1) ∧ RVs K g.adr w H d.2 (kvs.map fun p => p.2) ∧ kvs.length ≤ n
theorem DAt.ext {K : PySem.W.Frag} {w1 w w' : Wd} {H1 H H' : Hp} {D : Addr} {h h' : VH} {d : KVs} {n : Nat} (a : DAt K g w1 H1 D w H h d n) (e : Ext w H w' H') (k : Hk K g.adr w' h' H') : DAt K g w1 H1 D w' H' h' d n := by
  obtain ⟨kvs, h1, h2, h3, h4⟩ := a.at_
  exact ⟨a.gd.ext e, k, kvs, (e.prot D (.inl (by rw [a.gd.P]; exact .inr rfl))).trans h1, RVs.mono e.sees _ _ h2, RVs.mono e.sees _ _ h3, h4⟩
/-- the second clause's turns; what comes behind them is k -/
theorem in_imp {w1 : Wd} {H1 : Hp} {D : Addr} (k1 : ∃ h1, Hk X.K g.adr w1 h1 H1) (hD : H1 D = none) {vs1 : List Nat} (hIn : InIs mg1 is1) (hs : ∀ j ∈ is1, j ∈ vs1) {σ σ0 : L2.St} {sv : Sv} {w2 : Wd} {H2 : Hp} {h2 : VH} {d : KVs} {n : Nat} {Q : VK} {k : KVs → VH → Out VV} {N : Hp → Prop}
    (rs : RSl X.K g w2 H2 sv σ) (a : DAt X.K g w1 H1 D w2 H2 h2 d n) (p : Post X.K g (relV X.K g) w1 H1 σ0 Q W ((mi1 sv h2).nox.bind fun items h3 => if fits (d.1.length + items.length) then (dc1Go (wipeS sv vs1) mg1 mk mv items d h3).bind k else .bad))
    (fin : ∀ w3 H3 h3 d3, Sees w2 H2 w3 H3 → DAt X.K g w1 H1 D w3 H3 h3 d3 16777216 → Post X.K g (relV X.K g) w1 H1 σ0 Q W (k d3 h3) → N H3) :
    tIn (tG X.K g (relI X.K g) mi1 W0) (tGt X.K g mg1) (tPut (tG X.K g (relV X.K g) mk W0) (tG X.K g (relV X.K g) mv W0) D) vs1 σ H2 N := by
  obtain ⟨h1, k1⟩ := k1
  refine ⟨w2, sv, h2, rs, a.hk, ?_⟩
  cases ei : mi1 sv h2 with
  | bad => rw [ei] at p; exact p.elim
  | exc x h3 => rw [ei] at p; exact p.elim
  | ok items h3 =>
    rw [ei] at p
    simp only [Out.nox, Out.bind] at p
    intro w3 H3 J e3 k3 rJ
    have a3 := a.ext e3 k3
    have rs3 := rs.mono _ _ e3.sees
    by_cases hf : fits (d.1.length + items.length) = true
    case neg => rw [if_neg hf] at p; exact p.elim
    rw [if_pos hf] at p
    have hz := fits_le hf
    have hz2 : d.1.length + items.length ≤ 16777216 := by
      unfold fits at hf
      exact Nat.le_of_ble_eq_true hf
    obtain ⟨kvs0, q1, q2, q3, q4⟩ := a3.at_
    have hlen : kvs0.length = d.1.length := by rw [q2.length, List.length_map]
    refine ⟨fun i m H4 => m = items.length - i ∧ i ≤ items.length ∧ ∃ w4 h4 d4, Sees w3 H3 w4 H4 ∧ DAt X.K g w1 H1 D w4 H4 h4 d4 (d.1.length + i) ∧ Post X.K g (relV X.K g) w1 H1 σ0 Q W ((dc1Go (wipeS sv vs1) mg1 mk mv (items.drop i) d4 h4).bind k),
      ⟨items.length, by simp, Nat.zero_le _, w3, h3, d, Sees.refl _ _, ⟨a3.gd, a3.hk, kvs0, q1, q2, q3, by omega⟩, p⟩, ?_⟩
    rintro i m H4 ⟨rfl, hi, w4, h4, d4, se, a4, p4⟩
    by_cases hlt : i < items.length
    · right
      have hv : items[i]? = some items[i] := List.getElem?_eq_getElem hlt
      generalize items[i] = v at hv
      have hdrop : items.drop i = v :: items.drop (i + 1) := by
        obtain ⟨z, ez⟩ := List.getElem?_eq_some_iff.mp hv
        rw [← ez]
        exact List.drop_eq_getElem_cons hlt
      rw [hdrop] at p4
      simp only [dc1Go] at p4
      obtain ⟨go, yl⟩ := rJ.step w4 h4 H4 i v se a4.hk hv
      refine ⟨go, fun H' => ∃ w5 h5 d5, Sees w3 H3 w5 H' ∧ DAt X.K g w1 H1 D w5 H' h5 d5 (d.1.length + (i + 1)) ∧ Post X.K g (relV X.K g) w1 H1 σ0 Q W ((dc1Go (wipeS sv vs1) mg1 mk mv (items.drop (i + 1)) d5 h5).bind k),
        fun H' q => ⟨items.length - (i + 1), by omega, rfl, hlt, q⟩, fun x H5 hy => ?_⟩
      obtain ⟨ex, k5, rx⟩ := yl x H5 hy
      cases em : mg1 v with
      | none => rw [em] at p4; exact p4.elim
      | some asg =>
        rw [em] at p4
        dsimp only at p4
        refine ⟨w4, h4, v, asg, k5, rx, em, fun ya rya => ?_⟩
        have se5 := se.trans ex.sees
        have rs5 := ((rs3.wipe vs1).mono _ _ se5).sets rya
        refine ⟨wipe_eq (is := is1) (setsR_length _ _) hs fun j hj => setsR_ne fun p hp z => ?_, ?_⟩
        · obtain ⟨q, hq, e⟩ := rya.ix p hp
          exact hj (by rw [← z, ← e]; exact hIn v asg em q hq)
        generalize setsV asg (wipeS sv vs1) = sv2 at rs5 p4
        generalize setsR ya (wipe σ vs1) = σ2 at rs5
        rw [Out.bind_assoc] at p4
        have a5 := a4.ext ex k5
        refine ⟨w4, sv2, h4, rs5, k5, ?_⟩
        cases ek : mk sv2 h4 with
        | bad => rw [ek] at p4; exact p4.elim
        | exc x h5 => rw [ek] at p4; exact p4.elim
        | ok xk h6 =>
          rw [ek] at p4
          simp only [Out.nox, Out.bind] at p4
          intro w6 H6 y e6 k6 ry
          have a6 := a5.ext e6 k6
          refine ⟨w6, sv2, h6, rs5.mono _ _ e6.sees, k6, ?_⟩
          cases ev : mv sv2 h6 with
          | bad => rw [ev] at p4; exact p4.elim
          | exc x h7 => rw [ev] at p4; exact p4.elim
          | ok xv h7 =>
            rw [ev] at p4
            simp only [Out.nox, Out.bind] at p4
            intro w7 H7 z e7 k7 rz
            have a7 := a6.ext e7 k7
            cases eo : keyOf xk with
            | none => rw [eo] at p4; exact p4.elim
            | some kk =>
              rw [eo] at p4
              dsimp only at p4
              obtain ⟨kvs, b1, b2, b3, b4⟩ := a7.at_
              have ry7 := RV.mono e7.sees _ _ ry
              have sg : Sees w7 H7 w7 (upd H7 D (.dK (putK kvs kk z))) := guard_set_sees a7.gd.P
              obtain ⟨c1, c2⟩ := put_ok b2 b3 eo rz
              have hput := putK_len kvs kk z
              refine ⟨kvs, kk, ry.key eo, b1, Nat.lt_of_lt_of_le (by omega) hz, w7, h7, putL d4.1 d4.2 xk xv, ((se5.trans e6.sees).trans e7.sees).trans sg, ⟨a7.gd.set k1 hD, guard_set_hk a7.gd.P k7, putK kvs kk z, upd_same, RVs.mono sg _ _ c1, RVs.mono sg _ _ c2, by omega⟩, p4⟩
    · left
      have e : i = items.length := by omega
      subst e
      refine ⟨rJ.stop w4 H4 se, fin w4 H4 h4 d4 (e3.sees.trans se) ?_ ?_⟩
      · obtain ⟨kvs, b1, b2, b3, b4⟩ := a4.at_
        exact ⟨a4.gd, a4.hk, kvs, b1, b2, b3, by omega⟩
      · rw [List.drop_length] at p4
        exact p4
theorem dc2_imp {vs vs1 : List Nat} (hIn : InIs mg is) (hs : ∀ j ∈ is, j ∈ vs) (hIn1 : InIs mg1 is1) (hs1 : ∀ j ∈ is1, j ∈ vs1) {σ : L2.St} {H : Hp} {Q : VK} (t : tG X.K g (relV X.K g) (dc2M mi mg mi1 mg1 vs vs1 mk mv) W σ H Q) :
    tDc2 (tG X.K g (relI X.K g) mi W) (tGt X.K g mg) (tG X.K g (relI X.K g) mi1 W0) (tGt X.K g mg1) (tG X.K g (relV X.K g) mk W0) (tG X.K g (relV X.K g) mv W0) vs vs1 σ H Q := by
  obtain ⟨w, sv, h, rs, hk, p⟩ := t
  refine seqG' rs hk p fun w1 H1 h1 items J e1 rs1 k1 r1 p1 => ?_
  intro D hD
  refine ⟨fun i m H2 => m = items.length - i ∧ i ≤ items.length ∧ ∃ w2 h2 d, DAt X.K g w1 H1 D w2 H2 h2 d 16777216 ∧ Post X.K g (relV X.K g) w1 H1 σ Q W ((dc2Go (wipeS sv vs) mg mi1 mg1 vs1 mk mv (items.drop i) d h2).bind fun d h3 => .ok (.dct d.1 d.2) h3),
    ⟨items.length, by simp, Nat.zero_le _, w1.guard D, h1, ([], []), ⟨Gd.start k1 hD, guard_hk k1 hD, [], upd_same, by simp [RVs], by simp [RVs], Nat.zero_le _⟩, by simpa using p1⟩, ?_⟩
  rintro i m H2 ⟨rfl, hi, w2, h2, d, a, p2⟩
  by_cases hlt : i < items.length
  · right
    have hv : items[i]? = some items[i] := List.getElem?_eq_getElem hlt
    generalize items[i] = v at hv
    have hdrop : items.drop i = v :: items.drop (i + 1) := by
      obtain ⟨z, ez⟩ := List.getElem?_eq_some_iff.mp hv
      rw [← ez]
      exact List.drop_eq_getElem_cons hlt
    rw [hdrop] at p2
    simp only [dc2Go] at p2
    obtain ⟨go, yl⟩ := r1.step w2 h2 H2 i v a.gd.sees a.hk hv
    refine ⟨go, fun H' => ∃ w3 h3 d, DAt X.K g w1 H1 D w3 H' h3 d 16777216 ∧ Post X.K g (relV X.K g) w1 H1 σ Q W ((dc2Go (wipeS sv vs) mg mi1 mg1 vs1 mk mv (items.drop (i + 1)) d h3).bind fun d h3 => .ok (.dct d.1 d.2) h3),
      fun H' q => ⟨items.length - (i + 1), by omega, rfl, hlt, q⟩, fun x H3 hy => ?_⟩
    obtain ⟨ex, k3, rx⟩ := yl x H3 hy
    cases em : mg v with
    | none => rw [em] at p2; exact p2.elim
    | some asg =>
      rw [em] at p2
      dsimp only at p2
      refine ⟨w2, h2, v, asg, k3, rx, em, fun ya rya => ?_⟩
      have rs3 := ((rs1.wipe vs).mono _ _ (a.gd.sees.trans ex.sees)).sets rya
      refine ⟨wipe_eq (is := is) (setsR_length _ _) hs fun j hj => setsR_ne fun p hp z => ?_, ?_⟩
      · obtain ⟨q, hq, e⟩ := rya.ix p hp
        exact hj (by rw [← z, ← e]; exact hIn v asg em q hq)
      refine in_imp (k := fun d2 h2 => (dc2Go (wipeS sv vs) mg mi1 mg1 vs1 mk mv (items.drop (i + 1)) d2 h2).bind fun d h3 => .ok (.dct d.1 d.2) h3) ⟨h1, k1⟩ hD hIn1 hs1 rs3 (a.ext ex k3) ?_ fun w4 H4 h4 d4 _ a4 p4 => ⟨w4, h4, d4, a4, p4⟩
      rw [Out.bind_assoc] at p2
      cases ei : (mi1 (setsV asg (wipeS sv vs)) h2).nox with
      | bad => rw [ei] at p2; exact p2
      | exc x h5 => rw [ei] at p2; exact p2
      | ok its h5 =>
        rw [ei] at p2
        simp only [Out.bind] at p2 ⊢
        by_cases hf : fits (d.1.length + its.length) = true
        · rw [if_pos hf] at p2 ⊢
          cases eg : dc1Go (wipeS (setsV asg (wipeS sv vs)) vs1) mg1 mk mv its d h5 with
          | ok d2 h6 => rw [eg] at p2; exact p2
          | exc x h6 => rw [eg] at p2; exact p2
          | bad => rw [eg] at p2; exact p2
        · rw [if_neg hf] at p2
          exact p2.elim
  · left
    have e : i = items.length := by omega
    subst e
    refine ⟨r1.stop w2 H2 a.gd.sees, ?_⟩
    rw [List.drop_length] at p2
    obtain ⟨kvs, b1, b2, b3, b4⟩ := a.at_
    refine p2 (w2.bare w1.P) H2 (.ref D) a.gd.done (unguard_hk a.gd.P a.hk) ?_
    simp only [relV, RV]
    exact ⟨D, kvs, rfl, ⟨b1, a.gd.free k1 hD a.hk⟩, RVs.mono (unguard_sees a.gd.P) _ _ b2, RVs.mono (unguard_sees a.gd.P) _ _ b3⟩
theorem re_dc2 {kx vx tg iter tg1 iter1 : Expr} {scope : Scope} {pos : Pos} {own : List (Str × Nat)} {vs1 : List Nat} (hc : X.calm = true) (hN : X.N.Nodup) (hi : RI X g W tg iter mi) (ok : BlkOk X.N X.env.scope scope own) (hv : ∀ i ∈ vs1, i ∈ own.map (·.2)) (his : InIs mg is) (hs : ∀ j ∈ is, j ∈ own.map (·.2)) (his1 : InIs mg1 is1) (hs1 : ∀ j ∈ is1, j ∈ vs1)
    (hg : ∀ (s : Shared) (H : Hp) (C : Addr) (cl : List (Str × Addr)) (fp : List Addr), RG (X.blk s H scope (compEnvC scope cl C X.env) fp) g tg mg)
    (hi1 : ∀ (s : Shared) (H : Hp) (C : Addr) (cl : List (Str × Addr)) (fp : List Addr), RI (X.blk s H scope (compEnvC scope cl C X.env) fp) g W0 tg1 iter1 mi1)
    (hg1 : ∀ (s : Shared) (H : Hp) (C : Addr) (cl : List (Str × Addr)) (fp : List Addr), RG (X.blk s H scope (compEnvC scope cl C X.env) fp) g tg1 mg1)
    (hk : ∀ (s : Shared) (H : Hp) (C : Addr) (cl : List (Str × Addr)) (fp : List Addr), RE (X.blk s H scope (compEnvC scope cl C X.env) fp) g W0 kx mk)
    (he : ∀ (s : Shared) (H : Hp) (C : Addr) (cl : List (Str × Addr)) (fp : List Addr), RE (X.blk s H scope (compEnvC scope cl C X.env) fp) g W0 vx mv)
    (hf : ∀ x, foldedSetIterable iter X.env x = pure x := by intro _; rfl) (hf1 : ∀ env x, foldedSetIterable iter1 env x = pure x := by intro _ _; rfl) :
    RE X g W (.DictComp kx vx [⟨tg, iter, [], 0⟩, ⟨tg1, iter1, [], 0⟩] scope pos) (dc2M mi mg mi1 mg1 (own.map (·.2)) vs1 mk mv) :=
  pe_imp (pe_dc2 hc hN hi ok hv hg hi1 hg1 hk he hf hf1) fun σ H Q t => dc2_imp his hs his1 hs1 t
end
end Mv
set_option Elab.async false
set_option linter.all false
set_option maxRecDepth 100000
/-! Mv, part P: sorted of a list of tuples of ints. -/
namespace Mv
open PySem PySem.Spec PyProof.Rows L2

/-! ### sorting by keys -/
def insK (x : List Int) : List (List Int) → List (List Int)
  | [] => [x]
  | y :: ys => if HT.lexLt y x then y :: insK x ys else x :: y :: ys
def sortK : List (List Int) → List (List Int)
  | [] => []
  | x :: xs => insK x (sortK xs)
theorem insK_perm (x : List Int) : ∀ l : List (List Int), (insK x l).Perm (x :: l)
  | [] => List.Perm.refl _
  | y :: ys => by
    unfold insK
    split
    · exact ((insK_perm x ys).cons y).trans (List.Perm.swap x y ys)
    · exact List.Perm.refl _
theorem sortK_perm : ∀ l : List (List Int), (sortK l).Perm l
  | [] => List.Perm.refl _
  | x :: xs => (insK_perm x (sortK xs)).trans ((sortK_perm xs).cons x)
abbrev SrtK (l : List (List Int)) : Prop := l.Pairwise fun a b => HT.lexLt b a = false
theorem insK_sorted (x : List Int) : ∀ l : List (List Int), SrtK l → SrtK (insK x l)
  | [], _ => List.pairwise_singleton _ _
  | y :: ys, h => by
    have h2 := List.pairwise_cons.mp h
    unfold insK
    split
    · rename_i c
      refine List.pairwise_cons.mpr ⟨fun z hz => ?_, insK_sorted x ys h2.2⟩
      rcases List.mem_cons.mp ((insK_perm x ys).mem_iff.mp hz) with e | hz
      · rw [e]
        exact NtL.lex_asym _ _ c
      · exact h2.1 z hz
    · rename_i c
      have c' : HT.lexLt y x = false := by simpa using c
      refine List.pairwise_cons.mpr ⟨fun z hz => ?_, h⟩
      rcases List.mem_cons.mp hz with e | hz
      · rw [e]
        exact c'
      · exact NtL.lex_tr _ _ _ c' (h2.1 z hz)
theorem sortK_sorted : ∀ l : List (List Int), SrtK (sortK l)
  | [] => List.Pairwise.nil
  | x :: xs => insK_sorted x _ (sortK_sorted xs)
theorem lex_anti : ∀ {a b : List Int}, HT.lexLt a b = false → HT.lexLt b a = false → a = b
  | [], [], _, _ => rfl
  | [], y :: ys, h, _ => by rw [HT.lexLt_nil_cons] at h; cases h
  | x :: xs, [], _, h => by rw [HT.lexLt_nil_cons] at h; cases h
  | x :: xs, y :: ys, h1, h2 => by
    rw [HT.lexLt_cons] at h1 h2
    by_cases e : x = y
    · rw [if_pos e] at h1
      rw [if_pos e.symm] at h2
      rw [e, lex_anti h1 h2]
    · rw [if_neg e] at h1
      rw [if_neg (Ne.symm e)] at h2
      have a := of_decide_eq_false h1
      have b := of_decide_eq_false h2
      omega
theorem srtK_unique : ∀ {l m : List (List Int)}, l.Perm m → SrtK l → SrtK m → l = m
  | [], m, h, _, _ => (List.Perm.eq_nil h.symm).symm
  | x :: l, [], h, _, _ => absurd h.length_eq (by simp)
  | x :: l, y :: m, h, hl, hm => by
    have hl2 := List.pairwise_cons.mp hl
    have hm2 := List.pairwise_cons.mp hm
    have e : x = y := by
      have h1 : x = y ∨ HT.lexLt x y = false := (List.mem_cons.mp (h.mem_iff.mp List.mem_cons_self)).imp id fun z => hm2.1 x z
      have h2 : y = x ∨ HT.lexLt y x = false := (List.mem_cons.mp (h.mem_iff.mpr List.mem_cons_self)).imp id fun z => hl2.1 y z
      rcases h1 with h1 | h1
      · exact h1
      · rcases h2 with h2 | h2
        · exact h2.symm
        · exact lex_anti h1 h2
    subst e
    rw [srtK_unique h.cons_inv hl2.2 hm2.2]

/-! ### how a list of such tuples is sorted -/
section
variable {prog : Program} {w : World} {A : Around} {E : Value → Shared → Prop} {s : Shared}
theorem lt_one {v u : Value} {ns ms : List Int} {Q : Bool → Shared → Prop} (hu : A.units < cLine) (hv : TS.TupInts s.heap v ns) (hw : TS.TupInts s.heap u ms) (h : Q (HT.lexLt ns ms) s) : wpAny (model prog w) A (keyLt' oneType' v u) Q E s := by
  obtain ⟨a, xs, rfl, ⟨⟨cl, dd, dt, sl⟩, ho, hc, n, hd⟩, hi⟩ := hv
  obtain ⟨b, ys, rfl, ⟨⟨cl2, dd2, dt2, sl2⟩, ho2, hc2, n2, hd2⟩, hj⟩ := hw
  dsimp only at hc hd hc2 hd2
  subst hc hd hc2 hd2
  rw [keyLt'_oneType, oneLt'_eq]
  simp only [if_true]
  refine wpAny_bind (wpAny_cRoomFor hu ?_)
  refine wpAny_bind (wpAny_callSpecialIfBound?_slot (T := "tuple") ⟨_, ho, rfl⟩ PySem.F.slot_tuple_lt (call_meets PySem.F.slot_tuple_lt ⟨_, ho, rfl⟩ PySem.F.entry_tuple_lt (PySem.F.args_tuple_lt_2 _ _) (HT.tuple_lt_ints a b xs ys n n2 dd dd2 sl sl2 ns ms hi hj) ⟨ho, ho2, ?_⟩))
  exact wpAny_truthy_bool h
theorem lex_walk {Q : Bool → Shared → Prop} {k m : Nat} : ∀ {us ws : List Value} {ns ms : List Int} (i : Nat), IntsAre us ns → IntsAre ws ms → k + ms.length = m + ns.length → Q (HT.lexLt ns ms) s → PySem.W.KatLex prog w A true (decide (k < m)) Q (us.zip ws) i s
  | _, _, _, _, i, .nil, .nil, e, h => by
    refine PySem.W.kat_nil ?_
    rw [HT.lexLt_nil_nil] at h
    have : decide (k < m) = false := decide_eq_false (by simp at e; omega)
    rw [this]
    exact h
  | _, _, _, _, i, .nil, .cons c u hw, e, h => by
    refine PySem.W.kat_nil ?_
    rw [HT.lexLt_nil_cons] at h
    have : decide (k < m) = true := decide_eq_true (by simp at e; omega)
    rw [this]
    exact h
  | _, _, _, _, i, .cons a t hv, .nil, e, h => by
    rw [List.zip_nil_right]
    refine PySem.W.kat_nil ?_
    rw [HT.lexLt_cons_nil] at h
    have : decide (k < m) = false := decide_eq_false (by simp at e; omega)
    rw [this]
    exact h
  | _, _, _, _, i, .cons a t hv, .cons c u hw, e, h => by
    rw [List.zip_cons_cons]
    rw [HT.lexLt_cons] at h
    refine PySem.W.kat_cons (SeqAt.EqAt.int_int a t c u prog w _ _ ?_)
    refine PySem.W.kat_go (fun e1 => ?_) (fun e1 => ?_)
    · have ex : a = c := by simpa using e1
      rw [if_pos ex] at h
      exact PySem.W.kat_yes (lex_walk (i + 1) hv hw (by simp at e; omega) h)
    · have ex : ¬ a = c := by simpa using e1
      rw [if_neg ex] at h
      refine PySem.W.kat_no ?_
      cases i with
      | zero => exact oneLt_int h
      | succ i => exact PySem.W.kat_one _ _ (PyProof.Rows.lt_int h)
theorem lt_tups {v u : Value} {ns ms : List Int} {Q : Bool → Shared → Prop} (hv : TS.TupInts s.heap v ns) (hw : TS.TupInts s.heap u ms) (h : Q (HT.lexLt ns ms) s) : wpAny (model prog w) A (keyLt' (tuples' true) v u) Q E s := by
  obtain ⟨a, xs, rfl, ⟨o, ho, hc, n, hd⟩, hi⟩ := hv
  obtain ⟨b, ys, rfl, ⟨o2, ho2, hc2, n2, hd2⟩, hj⟩ := hw
  refine PySem.W.kat_lt ho hd ho2 hd2 (lex_walk 0 hi hj ?_ h)
  have h1 := hi.length
  have h2 := hj.length
  rw [Array.length_toList] at h1 h2
  omega
end

/-! ### which way the list is sorted -/
section
variable {M : Model} {prog : Program} {w : World} {A : Around} {E : Value → Shared → Prop} {s : Shared}
theorem mapM_looks {β : Type} {f : Value → Sem β} {r : Value → β} : ∀ (vs : List Value) {Q : List β → Shared → Prop}, (∀ v ∈ vs, ∀ Q : β → Shared → Prop, Q (r v) s → wpAny M A (f v) Q E s) → Q (vs.map r) s → wpAny M A (vs.mapM f) Q E s
  | [], Q, _, h => by
    rw [List.mapM_nil]
    exact wpAny_pure h
  | v :: vs, Q, hf, h => by
    rw [List.mapM_cons]
    refine wpAny_bind (hf v List.mem_cons_self _ ?_)
    exact wpAny_bind (mapM_looks vs (fun u hu => hf u (List.mem_cons_of_mem _ hu)) (wpAny_pure h))
/-- the first item, as the sort asks for it -/
def fstOf (h : Heap) (v : Value) : Option Value := match v with
  | .ref a => (match h.get? a with
    | some o => (match o.data with
      | .seq xs _ => xs[0]?
      | _ => none)
    | none => none)
  | _ => none
theorem first_tup {v : Value} {ns : List Int} {Q : Option Value → Shared → Prop} (hv : TS.TupInts s.heap v ns) (h : Q (fstOf s.heap v) s) : wpAny M A (firstOfTuple' v) Q E s := by
  obtain ⟨a, xs, rfl, ⟨o, ho, hc, n, hd⟩, hi⟩ := hv
  have e : fstOf s.heap (.ref a) = xs[0]? := by
    unfold fstOf
    simp only [ho, hd]
  rw [e] at h
  rw [PySem.W.kas_first_eq]
  refine wpAny_bind (PySem.W.Looks.here (show PySem.W.Looks M s.heap (typeOf (.ref a)) o.cls from (PySem.W.Looks.ld ho).andThen .now) ?_)
  rw [hc, if_neg (by first | decide | simp)]
  exact wpAny_bind (listItems_at ho hd (wpAny_pure h))
theorem fst_none {v : Value} (hv : TS.TupInts s.heap v []) : fstOf s.heap v = none := by
  obtain ⟨a, xs, rfl, ⟨o, ho, hc, n, hd⟩, hi⟩ := hv
  have hl := hi.length
  unfold fstOf
  simp only [ho, hd]
  have : xs = #[] := by
    apply Array.toList_inj.mp
    exact List.length_eq_zero_iff.mp hl
  subst this
  rfl
/-- the first item is empty: one type for all -/
theorem kind_empty {v0 : Value} {rest : List Value} {k : Value → List Int} {Q : SortKind → Shared → Prop} (hv : ∀ v ∈ v0 :: rest, TS.TupInts s.heap v (k v)) (h0 : k v0 = []) (h : Q oneType' s) : wpAny M A (keyKind' (v0 :: rest).toArray) Q E s := by
  rw [kat_kind_eq, List.mapM_toArray, map_eq_pure_bind]
  have z : fstOf s.heap v0 = none := by
    have t := hv v0 List.mem_cons_self
    rw [h0] at t
    exact fst_none t
  refine wpAny_bind (wpAny_bind (mapM_looks (r := fstOf s.heap) _ (fun v hm Q' q => first_tup (hv v hm) q) (wpAny_pure ?_)))
  have e1 : ((List.map (fstOf s.heap) (v0 :: rest)).toArray.all fun x => x.isSome) = false := by simp [z]
  rw [if_neg (by rw [e1]; decide)]
  have e2 : (List.map (fstOf s.heap) (v0 :: rest)).toArray[0]? = some none := by simp [z]
  rw [e2, if_neg (by decide)]
  rw [oneTypeOnly'_eq, List.mapM_toArray, map_eq_pure_bind]
  refine wpAny_bind (wpAny_bind (wpAny_bind (mapM_looks (r := fun _ => Value.type "tuple") _ (fun v hm Q' q => ?_) (wpAny_pure ?_))))
  · obtain ⟨a, xs, rfl, ⟨o, ho, hc, n, hd⟩, hi⟩ := hv v hm
    refine PySem.W.Looks.here (show PySem.W.Looks M s.heap (typeOf (.ref a)) (.type "tuple") from ?_) q
    rw [← hc]
    exact (PySem.W.Looks.ld ho).andThen .now
  have e3 : (List.map (fun _ => Value.type "tuple") (v0 :: rest)).toArray[0]? = some (Value.type "tuple") := by simp
  rw [e3]
  have e4 : ((List.map (fun _ => Value.type "tuple") (v0 :: rest)).toArray.all fun x => x == Value.type "tuple") = true := by simp
  simp only [e4, if_true]
  exact wpAny_pure (wpAny_pure h)
theorem kat_of : ∀ {vs : List Value} {k : Value → List Int}, (∀ v ∈ vs, TS.TupInts s.heap v (k v)) → (∀ v ∈ vs, k v ≠ []) → ∃ fs, PySem.W.KatTups s.heap vs fs ∧ fs.length = vs.length ∧ ∀ f ∈ fs, ∃ i t, f = Value.int i t
  | [], k, _, _ => ⟨[], trivial, rfl, fun f hf => by cases hf⟩
  | v :: vs, k, hv, hk => by
    obtain ⟨fs, h1, h2, h3⟩ := kat_of (vs := vs) (fun u hu => hv u (List.mem_cons_of_mem _ hu)) fun u hu => hk u (List.mem_cons_of_mem _ hu)
    obtain ⟨a, xs, rfl, ⟨o, ho, hc, n, hd⟩, hi⟩ := hv v List.mem_cons_self
    have hne := hk _ List.mem_cons_self
    obtain ⟨xl⟩ := xs
    change IntsAre xl _ at hi
    generalize en : k (.ref a) = nn at hi
    rw [en] at hne
    cases hi with
    | nil => exact absurd rfl hne
    | cons x t r =>
      exact ⟨.int x t :: _, PySem.W.KatTups.cons ho hc hd (by simp) h1, by simp [h2], fun f hf => by
        rcases List.mem_cons.mp hf with e | hf
        · exact ⟨x, t, e⟩
        · exact h3 f hf⟩
theorem tups_sortable {a : Addr} {vs : List Value} {k : Value → List Int} (h0 : 0 < vs.length) (hu : A.units < cLine) (hv : ∀ v ∈ vs, TS.TupInts s.heap v (k v)) (hk : (∃ v0 rest, vs = v0 :: rest ∧ k v0 = []) ∨ ∀ v ∈ vs, k v ≠ []) (ha : ∀ o, s.heap.get? a = some o → o.cls ≠ .type "tuple") :
    SrtO.SortableO prog w A s a vs fun v u => HT.lexLt (k v) (k u) := by
  intro h' keep
  have hv' : ∀ v ∈ vs, TS.TupInts h' v (k v) := fun v hm => (hv v hm).keeps fun b o e c => keep b o (fun z => by subst z; exact ha o e c) e
  rcases hk with ⟨v0, rest, rfl, hk⟩ | hk
  · refine ⟨oneType', fun Q E hq => kind_empty (s := { s with heap := h' }) hv' hk hq, fun p q hp hq => ?_⟩
    exact lt_one (s := { s with heap := h' }) (Q := fun r s' => s' = _ ∧ r = HT.lexLt (k p.1) (k q.1)) (E := fun _ _ => False) hu (hv' p.1 hp) (hv' q.1 hq) ⟨rfl, rfl⟩
  · obtain ⟨fs, h1, h2, h3⟩ := kat_of (s := { s with heap := h' }) hv' hk
    refine ⟨tuples' true, fun Q E hq => ?_, fun p q hp hq => ?_⟩
    · refine PySem.W.kat_kind (s := { s with heap := h' }) (T := .type "int") h1 (by omega) (fun f hm => ?_) (by rfl) ?_
      · obtain ⟨x, t, rfl⟩ := h3 f hm
        exact PySem.W.Looks.now
      · have e : (Value.type "int" != Value.type "tuple") = true := by first | decide +kernel | rfl | decide
        rw [e]
        exact hq
    · exact lt_tups (s := { s with heap := h' }) (Q := fun r s' => s' = _ ∧ r = HT.lexLt (k p.1) (k q.1)) (E := fun _ _ => False) (hv' p.1 hp) (hv' q.1 hq) ⟨rfl, rfl⟩
end
end Mv
set_option Elab.async false
set_option linter.all false
set_option maxRecDepth 100000
/-! Mv, part Q: sorted, as a call. -/
namespace Mv
open PySem PySem.Spec PyProof.Rows L2

def TupK (K : PySem.W.Frag) (H : Hp) : List V → List (List Int) → Prop
  | [], [] => True
  | x :: xs, n :: ns => (∃ t, x = .ref t ∧ SqT K H t (n.map V.int)) ∧ TupK K H xs ns
  | _, _ => False
def rSortedTL (K : PySem.W.Frag) : List V → Hp → VK → Prop := fun vs H Q => ∃ (a : Addr) (xs : List V) (ks : List (List Int)), vs = [.ref a] ∧ SqL K H a xs ∧ TupK K H xs ks ∧ ((∃ r, ks = [] :: r) ∨ ∀ n ∈ ks, n ≠ []) ∧
  ∀ (ys : List V) (kys : List (List Int)) (p : Addr), ys.length = kys.length → (∀ z ∈ ys.zip kys, z ∈ xs.zip ks) → kys.Perm ks → SrtK kys → H p = none → Q (.ref p) (upd H p (.lst ys))
section
variable {X : Cx}
theorem tupK_vals {pins : List (Addr × Obj)} {σ : L2.St} {H : Hp} {s : Shared} (I : Inv X pins σ H s) : ∀ {xs : List V} {ks : List (List Int)} {its : List Value}, Vals xs its → TupK X.K H xs ks →
    (∀ v ∈ its, TS.TupInts s.heap v (TS.intsOf s.heap v)) ∧ its.map (TS.intsOf s.heap) = ks ∧ xs = its.map backV ∧ ∀ v ∈ its, ∃ t, v = Value.ref t
  | [], [], _, .nil, _ => ⟨fun v hv => (by cases hv), rfl, rfl, fun v hv => (by cases hv)⟩
  | [], _ :: _, _, _, t => t.elim
  | _ :: _, [], _, _, t => t.elim
  | x :: xs, n :: ns, _, .cons ru rv, t => by
    obtain ⟨⟨t, rfl, hq⟩, tk⟩ := t
    cases ru
    obtain ⟨h1, h2, h3, h4⟩ := tupK_vals I rv tk
    obtain ⟨its, ri, ht, hz⟩ := I.tuple hq
    have ti : TS.TupInts s.heap (.ref t) n := ⟨t, its.toArray, rfl, ht, by simpa using intsAre_of ri⟩
    refine ⟨fun v hv => ?_, ?_, ?_, fun v hv => ?_⟩
    · rcases List.mem_cons.mp hv with e | hv
      · subst e
        rw [ti.ints]
        exact ti
      · exact h1 v hv
    · rw [List.map_cons, ti.ints, h2]
    · rw [List.map_cons, ← h3]
      rfl
    · rcases List.mem_cons.mp hv with e | hv
      · exact ⟨t, e⟩
      · exact h4 v hv
theorem cr_sortedTL (hu : X.A.units + 64 < cLine) : CallR X (.builtin "sorted") (rSortedTL X.K) := by
  intro pins s σ H vs us Q I r h
  obtain ⟨a, xs, ks, rfl, hs, tk, hk, q⟩ := h
  obtain ⟨its, rv, hl, hz⟩ := I.list hs
  rw [Vals.ref1 r]
  obtain ⟨h1, h2, h3, h4⟩ := tupK_vals I rv tk
  have hlen : its.length ≤ sizeLine := by rw [← rv.length]; exact hz
  refine SrtO.sorted_ord (NtL.swo_lexL (TS.intsOf s.heap)) hl.isList hlen (fun l2 g b hb kk => ?_) fun out hs hb => ?_
  · refine tups_sortable (A := X.A.in1.in1) (s := { s with heap := g }) (by omega) (show X.A.units + 1 + 1 < cLine by omega) (fun v hv => (h1 v hv).keeps fun c o e _ => (kk c o e).2) ?_ fun o e => ?_
    · rcases hk with ⟨rest, hk⟩ | hk
      · left
        cases its with
        | nil => simp at l2
        | cons v0 rest2 =>
          rw [hk, List.map_cons] at h2
          exact ⟨v0, rest2, rfl, (List.cons.inj h2).1⟩
      · right
        intro v hv
        exact hk _ (by rw [← h2]; exact List.mem_map.mpr ⟨v, hv, rfl⟩)
    · rw [hb] at e
      cases e
      intro c
      exact absurd (Value.type.inj c) (by decide)
  · have hm : ∀ v ∈ out, v ∈ its := fun v hv => hb.perm.mem_iff.mp hv
    have h5 : ∀ v ∈ out, ∃ t, v = Value.ref t := fun v hv => h4 v (hm v hv)
    obtain ⟨n, hn⟩ := sortedAll_at s.heap its out.toArray
    have hd : s.heap.objs.size ≤ s.heap.objs.size + 1 := Nat.le_succ _
    refine ⟨.ref (s.heap.objs.size + 1), upd H (s.heap.objs.size + 1) (.lst (out.map backV)), I.laid (t' := s.toks) (fun b o e => sortedAll_old e) hd ⟨?_, out, n, vals_back h5, hn⟩, rfl, q (out.map backV) (out.map (TS.intsOf s.heap)) _ (by simp) ?_ ?_ ?_ (I.hok.fresh hd)⟩
    · rw [List.length_map, hb.perm.length_eq]
      exact hlen
    · intro z hz
      rw [List.zip_map'] at hz
      obtain ⟨v, hv, e⟩ := List.mem_map.mp hz
      rw [h3, ← h2, List.zip_map']
      exact List.mem_map.mpr ⟨v, hm v hv, e⟩
    · rw [← h2]
      exact hb.perm.map _
    · exact List.pairwise_map.mpr hs
end

/-! ### its mirror -/
def tupV (ns : List Int) : VV := .tup (ns.map VV.int)
def tupKs : List VV → Option (List (List Int))
  | [] => some []
  | .tup xs :: r => (allIt xs).bind fun n => (tupKs r).map fun ns => n :: ns
  | _ :: _ => none
def okK : List (List Int) → Bool
  | [] :: _ => true
  | l => l.all fun n => !n.isEmpty
def sortedLF : VF := fun xs h => match xs with
  | [.lst ys] => (match allIt ys with
    | some ns => .ok (.lst ((sortI ns).map VV.int)) h
    | none => (match tupKs ys with
      | some ks => if okK ks then .ok (.lst ((sortK ks).map tupV)) h else .bad
      | none => .bad))
  | _ => .bad
abbrev rSortedL (K : PySem.W.Frag) : List V → Hp → VK → Prop := fun vs H Q => rSortedI K vs H Q ∨ rSortedTL K vs H Q
theorem cr_sortedL {X : Cx} (hu : X.A.units + 64 < cLine) : CallR X (.builtin "sorted") (rSortedL X.K) := cr_sortedI.or (cr_sortedTL hu)
section
variable {K : PySem.W.Frag} {g : Gx} {w : Wd} {H : Hp} {h : VH} {G : Nat → Addr}
theorem tupKs_rel : ∀ {ys : List VV} {ks : List (List Int)} {xs : List V}, tupKs ys = some ks → RVs K G w H ys xs → TupK K H xs ks ∧ ∀ z ∈ xs.zip ks, RV K G w H (tupV z.2) z.1
  | [], _, _, e, r => by
    simp only [tupKs, Option.some.injEq] at e
    simp only [RVs] at r
    subst e r
    exact ⟨trivial, fun z hz => by simp at hz⟩
  | y :: ys, ks, xs, e, r => by
    cases y with
    | tup zs =>
      simp only [tupKs, Option.bind_eq_some_iff, Option.map_eq_some_iff] at e
      obtain ⟨n, e1, ns, e2, rfl⟩ := e
      simp only [RVs] at r
      obtain ⟨x, xs, rfl, r1, r2⟩ := r
      obtain ⟨t1, t2⟩ := tupKs_rel e2 r2
      have e3 := allIt_ok e1
      subst e3
      obtain ⟨a, us, rfl, hq, hr⟩ := RV.tup_get r1
      rw [hr.ints] at hq
      refine ⟨⟨⟨a, rfl, hq⟩, t1⟩, fun z hz => ?_⟩
      rw [List.zip_cons_cons] at hz
      rcases List.mem_cons.mp hz with e | hz
      · rw [e]
        exact r1
      · exact t2 z hz
    | _ => simp [tupKs] at e
theorem okK_ok {ks : List (List Int)} (h : okK ks = true) : (∃ r, ks = [] :: r) ∨ ∀ n ∈ ks, n ≠ [] := by
  unfold okK at h
  split at h
  · exact .inl ⟨_, rfl⟩
  · right
    intro n hn
    have := List.all_eq_true.mp h n hn
    intro z
    subst z
    simp at this
theorem rvs_keys : ∀ {ys : List V} {kys : List (List Int)}, ys.length = kys.length → (∀ z ∈ ys.zip kys, RV K G w H (tupV z.2) z.1) → RVs K G w H (kys.map tupV) ys
  | [], [], _, _ => by simp [RVs]
  | [], _ :: _, e, _ => by simp at e
  | _ :: _, [], e, _ => by simp at e
  | y :: ys, k :: kys, e, h => by
    simp only [List.map_cons, RVs]
    exact ⟨y, ys, rfl, h (y, k) (by simp), rvs_keys (by simpa using e) fun z hz => h z (by rw [List.zip_cons_cons]; exact List.mem_cons_of_mem _ hz)⟩
theorem sortedLS : CallS K g (rSortedL K) sortedLF := by
  intro w h H σ W Q xs vs hk r p
  unfold sortedLF at p
  split at p
  · rename_i ys
    split at p
    · rename_i ns e
      refine .inl (sortedS w h H σ W Q _ vs hk r ?_)
      unfold sortedF
      simp only [e]
      exact p
    · split at p
      · rename_i ks e
        split at p
        · rename_i ok
          obtain ⟨y, rfl, r1⟩ := RVs.one r
          obtain ⟨a, us, rfl, ha, r2⟩ := RV.lst_get r1
          obtain ⟨t1, t2⟩ := tupKs_rel e r2
          refine .inr ⟨a, us, ks, rfl, SqL.of ha, t1, okK_ok ok, fun zs kzs q hl hz hp hs hq => ?_⟩
          have e2 : kzs = sortK ks := srtK_unique (hp.trans (sortK_perm ks).symm) hs (sortK_sorted ks)
          subst e2
          exact post_newl p hk (rvs_keys hl fun z hzz => t2 z (hz z hzz)) hq
        · exact p.elim
      · exact p.elim
  · exact p.elim
end
end Mv
set_option Elab.async false
set_option linter.all false
set_option maxRecDepth 100000
/-! Mv, part R: t[::-1] of a tuple, {k: v}. -/
namespace Mv
open PySem PySem.Spec PyProof.Rows L2
section
variable {prog : Program} {w : World} {A : Around} {E : Value → Shared → Prop} {s : Shared}
theorem places_rev (n : Nat) : Builtin.Slice.slicePlaces ((n : Int) - 1) (-1) (-1) = n := by
  unfold Builtin.Slice.slicePlaces
  rw [if_neg (by decide)]
  by_cases h : (n : Int) - 1 > -1
  · rw [if_pos h]
    have : ((n : Int) - 1 - -1 - 1) / (- -1) + 1 = n := by
      have e : (- -1 : Int) = 1 := by decide
      rw [e, Int.ediv_one]
      omega
    rw [this]
    omega
  · rw [if_neg h]
    omega
theorem sliced_rev {sl : Addr} {n : Nat} {t : Tok} {Q : Int × Int × Nat → Shared → Prop} (hs : s.heap.IsSliceOf sl .none .none (.int (-1) t)) (h : Q ((n : Int) - 1, -1, n) s) : wpAny (model prog w) A (Builtin.Slice.sliceApplied (.ref sl) (pure (n : Int))) Q E s := by
  obtain ⟨os, hos, hcs, hds⟩ := id hs
  unfold Builtin.Slice.sliceApplied Builtin.Slice.sliceFields
  refine wpAny_bind (wpAny_bind (wpAny_field hos hds (x := .none) rfl (wpAny_bind (wpAny_field hos hds (x := .none) rfl (wpAny_bind (wpAny_field hos hds (x := .int (-1) t) rfl (wpAny_pure ?_)))))))
  refine wpAny_bind (slicePart_int ?_)
  show wpAny _ _ (if ((-1 : Int) == 0) = true then _ else _) _ _ s
  rw [if_neg (by decide)]
  refine wpAny_bind (slicePart_none (wpAny_bind (slicePart_none (wpAny_bind (wpAny_pure ?_)))))
  show wpAny _ _ (pure ((n : Int) - 1, (-1 : Int), Builtin.Slice.slicePlaces ((n : Int) - 1) (-1) (-1))) _ _ s
  rw [places_rev]
  exact wpAny_pure h
theorem fm_some {α β : Type} {f : α → Option β} {g : α → β} : ∀ l : List α, (∀ m ∈ l, f m = some (g m)) → l.filterMap f = l.map g
  | [], _ => rfl
  | m :: l, h => by
    rw [List.filterMap_cons, h m List.mem_cons_self, List.map_cons, ← fm_some l fun k hk => h k (List.mem_cons_of_mem _ hk)]
theorem pick_rev (xs : Array Value) : ((List.range xs.size).filterMap fun (m : Nat) => xs[(((xs.size : Int) - 1) + (m : Int) * (-1)).toNat]?).toArray = xs.toList.reverse.toArray := by
  congr 1
  apply List.ext_getElem?
  intro i
  have e : (List.range xs.size).filterMap (fun (m : Nat) => xs[(((xs.size : Int) - 1) + (m : Int) * (-1)).toNat]?) = (List.range xs.size).map fun m => xs.toList.getD (xs.size - 1 - m) .none := by
    refine fm_some _ fun m hm => ?_
    have hm' := List.mem_range.mp hm
    have e1 : (((xs.size : Int) - 1) + (m : Int) * (-1)).toNat = xs.size - 1 - m := by omega
    have hlt : xs.size - 1 - m < xs.size := by omega
    rw [e1]
    simp [hlt]
  rw [e, List.getElem?_map]
  by_cases hi : i < xs.size
  · rw [List.getElem?_range hi, List.getElem?_reverse (by simpa using hi)]
    have hlt : xs.size - 1 - i < xs.size := by omega
    simp [hlt]
  · rw [List.getElem?_eq_none (by simpa using hi), List.getElem?_eq_none (by simpa using hi)]
    rfl
theorem getItem_tuple_rev {t sl : Addr} {items : Array Value} {tk : Tok} {Q : Value → Shared → Prop} (ht : IsTup s.heap t items) (hs : s.heap.IsSliceOf sl .none .none (.int (-1) tk)) (hsz : items.size ≤ sizeLine)
    (h : Q (.ref s.heap.objs.size) { s with heap := s.heap.push { cls := .type "tuple", data := .seq items.toList.reverse.toArray } }) : wpAny (model prog w) A (getItem (.ref t) (.ref sl)) Q E s := by
  obtain ⟨os, hos, hcs, hds⟩ := id hs
  have hTs : s.TypeIs (.ref sl) "slice" := ⟨os, hos, hcs⟩
  have hok : sizeOk (.seq items.toList.reverse.toArray) := by
    show items.toList.reverse.toArray.size ≤ sizeLine
    simpa using hsz
  unfold getItem
  try with_reducible refine wpAny_holding ?_
  first | refine wpAny_bind (wpAny_pure ?_) | skip
  refine wpAny_bind (wpAny_sequenceKey ht.typeIs (by decide) (wpAny_bind (wpAny_callSpecial?_slot (name := Str.ofString "__getitem__") ht.typeIs PyProof.Rows.slot_tuple_getitem (wpAny_call_entry PyProof.Rows.slot_tuple_getitem ht.typeIs entry_tuple_getitem ?_ (args_tuple_getitem _ _)))))
  show wpAny _ _ (Builtin.Tuple.tupleItemsOf (.ref t) >>= _) _ _ s
  refine wpAny_bind (tupleItemsOf_ ht (wpAny_bind (wpAny_typeOf hTs ?_)))
  rw [if_pos (by decide)]
  refine wpAny_bind (sliced_rev hs ?_)
  have hno : ¬ ((((items.size : Int) - 1) == 0 && (-1 : Int) == 1 && items.size == items.size) = true) := by simp
  show wpAny _ _ (if (((items.size : Int) - 1) == 0 && (-1 : Int) == 1 && items.size == items.size) = true then _ else _) _ _ s
  rw [if_neg hno, pick_rev]
  first
    | exact wpAny_bind (m := Builtin.Tuple.tupleExact _) (wpAny_newObj_type (wpAny_pure ⟨_, rfl, wpAny_pure h⟩) hok)
    | exact wpAny_bind (m := Builtin.Tuple.tupleExact _) (wpAny_newObj_type (wpAny_bind (wpAny_pure (wpAny_pure ⟨_, rfl, wpAny_pure h⟩))) hok)
    | exact wpAny_bind (wpAny_bind (m := Builtin.Tuple.tupleExact _) (wpAny_newObj_type (wpAny_pure (wpAny_pure ⟨_, rfl, wpAny_pure h⟩)) hok))
    | exact wpAny_bind (wpAny_bind (m := Builtin.Tuple.tupleExact _) (wpAny_newObj_type (wpAny_pure ⟨_, rfl, wpAny_pure h⟩) hok))
end
section
variable {X : Cx}
/-- t[::-1] -/
def tRevT (K : PySem.W.Frag) (te : TE) : TE := fun σ H Q => te σ H fun x H1 => ∃ a xs, x = .ref a ∧ SqT K H1 a xs ∧ ∀ p, H1 p = none → Q (.ref p) (upd H1 p (.tup xs.reverse))
theorem pe_revT {e : Expr} {te : TE} {k : Nat} {p1 p2 p3 pos : Pos} (he : PE X e te) : PE X (.Subscript e (.Slice none none (some (.UnaryOp .USub (.Constant (.int 1) k p1) p2)) p3) pos) (tRevT X.K te) := by
  refine ⟨fun pins s σ H Q I h => Subscript_ (thn (he.run pins s σ H _ I h) fun v s1 ⟨x, H1, I1, r1, a, xs, ex, hx, q⟩ => ?_)⟩
  subst ex
  cases r1
  have hst : PO X (some (.UnaryOp .USub (.Constant (.int 1) k p1) p2)) (tPart (tUn (rU fun i => .int (-i)) (tC (.int 1)))) := po_some (pe_un un_neg pe_int)
  refine wpAny_Slice (thn (po_none.run pins s1 σ H1 (fun o H2 => o = none ∧ H2 = H1) I1 ⟨rfl, rfl⟩) fun vl s2 ⟨l, H2, I2, pl, el, e2⟩ => ?_)
  subst el e2
  refine thn (po_none.run pins s2 σ H2 (fun o H3 => o = none ∧ H3 = H2) I2 ⟨rfl, rfl⟩) fun vu s3 ⟨u, H3, I3, pu, eu, e3⟩ => ?_
  subst eu e3
  refine thn (hst.run pins s3 σ H3 (fun o H4 => o = some (-1) ∧ H4 = H3) I3 ⟨1, rfl, -1, rfl, rfl, rfl⟩) fun vs s4 ⟨o, H4, I4, ps, eo, e4⟩ => ?_
  subst eo e4
  have I5 : Inv X pins σ H4 { s4 with heap := s4.heap.push { cls := .type "slice", data := .fields #[vl, vu, vs] } } := I4.kept (t' := s4.toks) fun b ob q => Heap.get?_push_of_some _ q
  obtain ⟨its, r, ht, hz⟩ := I5.tuple hx
  have hlen := r.length
  cases pl
  cases pu
  cases ps with
  | int _ tk =>
  show wpAny (model X.prog X.w) X.A (subscriptTail e (.Slice none none (some (.UnaryOp .USub (.Constant (.int 1) k p1) p2)) p3) (.ref a) (.ref s4.heap.objs.size)) (EP X pins σ Q) X.xe { s4 with heap := s4.heap.push { cls := .type "slice", data := .fields #[.none, .none, .int (-1) tk] } }
  refine tail_any (ops := [.ref a, .ref s4.heap.objs.size]) (show IsTup _ a its.toArray from ht).typeIs (PyProof.Rows.slot_tuple_getitem.lookup) ?_ (by with_unfolding_all rfl)
  refine getItem_tuple_rev (items := its.toArray) ht (Heap.IsSliceOf.new _ .none .none (.int (-1) tk)) (by rw [List.size_toArray]; omega) ?_
  refine ⟨.ref _, _, I5.laid (t' := s4.toks) (o := .tup xs.reverse) (fun b ob q => Heap.get?_push_of_some _ q) (Nat.le_refl _) ?_, rfl, q _ (I5.hok.fresh (Nat.le_refl _))⟩
  exact ⟨by rw [List.length_reverse]; exact hz, _, r.reverse, ⟨_, Heap.get?_push_size _ rfl, rfl, _, rfl⟩⟩
end

section
variable {X : Cx} {g : Gx} {W : WX} {e : Expr} {me : ME}
def revM (a : ME) : ME := fun sv h => (a sv h).bind fun x h1 => match x with
  | .tup xs => .ok (.tup xs.reverse) h1
  | _ => .bad
theorem re_rev {k : Nat} {p1 p2 p3 pos : Pos} (he : RE X g W e me) : RE X g W (.Subscript e (.Slice none none (some (.UnaryOp .USub (.Constant (.int 1) k p1) p2)) p3) pos) (revM me) :=
  pe_imp (pe_revT he) fun σ H Q ⟨w, sv, h, rs, hk, pp⟩ => seqG' rs hk pp fun w1 H1 h1 v y e1 rs1 k1 r1 p1 => by
    split at p1
    · rename_i xs
      obtain ⟨a, ys, rfl, hq, r2⟩ := RV.tup_get r1
      exact ⟨a, ys, rfl, hq, fun q hn => post_newt p1 k1 r2.rev hn⟩
    · exact p1.elim

/-! ### {k: v, ..} -/
def pairsGo : List (ME × ME) → Sv → VH → Out (List (VV × VV))
  | [], _, h => .ok [] h
  | (a, b) :: r, sv, h => (a sv h).nox.bind fun x h1 => (b sv h1).nox.bind fun y h2 => (pairsGo r sv h2).bind fun ps h3 => .ok ((x, y) :: ps) h3
def putAll : List (VV × VV) → KVs → Option KVs
  | [], d => some d
  | (x, y) :: r, d => match keyOf x with
    | some _ => putAll r (putL d.1 d.2 x y)
    | none => none
def dlitM (l : List (ME × ME)) : ME := fun sv h => (pairsGo l sv h).bind fun ps h1 => if Nat.ble ps.length 15 then (match putAll ps ([], []) with
  | some d => .ok (.dct d.1 d.2) h1
  | none => .bad) else .bad
def relPs (K : PySem.W.Frag) (g : Gx) (w : Wd) (H : Hp) : List (VV × VV) → List (V × V) → Prop
  | [], ys => ys = []
  | x :: xs, ys => ∃ y r, ys = y :: r ∧ RV K g.adr w H x.1 y.1 ∧ RV K g.adr w H x.2 y.2 ∧ relPs K g w H xs r
abbrev trsOf (X : Cx) (g : Gx) (W : WX) (l : List (ME × ME)) : List (TE × TE) := l.map fun q => (tG X.K g (relV X.K g) q.1 W, tG X.K g (relV X.K g) q.2 W)
theorem pairs_imp {w0 : Wd} {H0 : Hp} {σ0 : L2.St} {Q : VK} : ∀ (l : List (ME × ME)) {w : Wd} {H : Hp} {sv : Sv} {h : VH} {σ : L2.St} {k : List (VV × VV) → VH → Out VV} {T : List (V × V) → Hp → Prop}, RSl X.K g w H sv σ → Hk X.K g.adr w h H →
    Post X.K g (relV X.K g) w0 H0 σ0 Q W ((pairsGo l sv h).bind k) → (∀ w1 H1 h1 ps psV, Ext w H w1 H1 → Hk X.K g.adr w1 h1 H1 → relPs X.K g w1 H1 ps psV → Post X.K g (relV X.K g) w0 H0 σ0 Q W (k ps h1) → T psV H1) → tPairs (trsOf X g W l) σ H T
  | [], w, H, sv, h, σ, k, T, rs, hk, p, i => i w H h [] [] (Ext.refl _ _) hk rfl p
  | (a, b) :: r, w, H, sv, h, σ, k, T, rs, hk, p, i => by
    simp only [pairsGo] at p
    rw [Out.bind_assoc] at p
    refine ⟨w, sv, h, rs, hk, ?_⟩
    show Post _ _ _ _ _ _ _ _ (a sv h)
    cases ea : a sv h with
    | bad => rw [ea] at p; exact p.elim
    | exc x h1 => rw [ea] at p; exact p.elim
    | ok x h1 =>
      rw [ea] at p
      simp only [Out.nox, Out.bind] at p
      intro w1 H1 vx e1 k1 rx
      refine ⟨w1, sv, h1, rs.mono _ _ e1.sees, k1, ?_⟩
      show Post _ _ _ _ _ _ _ _ (b sv h1)
      cases eb : b sv h1 with
      | bad => rw [eb] at p; exact p.elim
      | exc y h2 => rw [eb] at p; exact p.elim
      | ok y h2 =>
        rw [eb] at p
        simp only [Out.nox, Out.bind] at p
        intro w2 H2 vy e2 k2 ry
        refine pairs_imp (w0 := w0) (H0 := H0) (σ0 := σ0) (Q := Q) r (k := fun ps h3 => k ((x, y) :: ps) h3) ((rs.mono _ _ e1.sees).mono _ _ e2.sees) k2 ?_ fun w3 H3 h3 ps psV e3 k3 r3 p3 => ?_
        · cases er : pairsGo r sv h2 with
          | bad => rw [er] at p; exact p
          | exc z h3 => rw [er] at p; exact p
          | ok z h3 => rw [er] at p; exact p
        · refine i w3 H3 h3 ((x, y) :: ps) ((vx, vy) :: psV) ((e1.trans e2).trans e3) k3 ?_ p3
          exact ⟨_, _, rfl, RV.mono (e2.sees.trans e3.sees) _ _ rx, RV.mono e3.sees _ _ ry, r3⟩
theorem putAll_ok {K : PySem.W.Frag} {w : Wd} {H : Hp} : ∀ {ps : List (VV × VV)} {psV : List (V × V)} {d d2 : KVs} {kvs : List (Key × V)}, relPs K g w H ps psV → putAll ps d = some d2 → RVs K g.adr w H d.1 (kvs.map fun p => kV p.1) → RVs K g.adr w H d.2 (kvs.map fun p => p.2) →
    ∃ more : List (Key × V), psV = more.map (fun kv => (kV kv.1, kv.2)) ∧ RVs K g.adr w H d2.1 ((mergeK kvs more).map fun p => kV p.1) ∧ RVs K g.adr w H d2.2 ((mergeK kvs more).map fun p => p.2)
  | [], psV, d, d2, kvs, r, e, a, b => by
    simp only [putAll, Option.some.injEq] at e
    simp only [relPs] at r
    subst e r
    exact ⟨[], rfl, a, b⟩
  | (x, y) :: ps, psV, d, d2, kvs, r, e, a, b => by
    simp only [putAll] at e
    simp only [relPs] at r
    obtain ⟨z, rest, rfl, r1, r2, r3⟩ := r
    split at e
    · rename_i k ek
      obtain ⟨a2, b2⟩ := put_ok a b ek r2
      obtain ⟨more, e1, e2, e3⟩ := putAll_ok r3 e a2 b2
      refine ⟨(k, z.2) :: more, ?_, e2, e3⟩
      rw [List.map_cons, ← e1, ← r1.key ek]
    · cases e
theorem relPs_len {K : PySem.W.Frag} {w : Wd} {H : Hp} : ∀ {ps : List (VV × VV)} {psV : List (V × V)}, relPs K g w H ps psV → ps.length = psV.length
  | [], _, r => by simp only [relPs] at r; rw [r]; rfl
  | x :: xs, _, r => by
    simp only [relPs] at r
    obtain ⟨_, _, rfl, _, _, r⟩ := r
    simp [relPs_len r]
abbrev RPs (X : Cx) (g : Gx) (W : WX) (pos : Pos) (ks : List (Option Expr)) (vs : List Expr) (l : List (ME × ME)) : Prop := PPs X pos ks vs (trsOf X g W l)
theorem rp_nil {pos : Pos} : RPs X g W pos [] [] [] := pps_nil
theorem rp_cons {pos : Pos} {k v : Expr} {ks : List (Option Expr)} {vs : List Expr} {mk mv : ME} {l : List (ME × ME)} (hk : RE X g W k mk) (hv : RE X g W v mv) (hr : RPs X g W pos ks vs l) : RPs X g W pos (some k :: ks) (v :: vs) ((mk, mv) :: l) := pps_cons hk hv hr
theorem re_dlit {pos : Pos} {keys : List (Option Expr)} {values : List Expr} {l : List (ME × ME)} (h : RPs X g W pos keys values l) (hall : keys.all (·.isSome) = true := by rfl) (hl : keys.length = values.length := by rfl) (h0 : keys ≠ [] := by simp) (h15 : keys.length ≤ 15 := by decide) : RE X g W (.Dict keys values pos) (dlitM l) :=
  pe_imp (pe_disp h hall hl h0 h15) fun σ H Q ⟨w, sv, hh, rs, hk, p⟩ => by
    intro D hD
    refine pairs_imp (w0 := w) (H0 := H) (σ0 := σ) (Q := Q) l (k := fun ps h1 => if Nat.ble ps.length 15 then (match putAll ps ([], []) with | some d => .ok (.dct d.1 d.2) h1 | none => .bad) else .bad) (rs.mono _ _ (guard_sees hk hD)) (guard_hk hk hD) p fun w1 H1 h1 ps psV e1 k1 r1 p1 => ?_
    have gd : Gd w H D w1 H1 := (Gd.start hk hD).ext e1
    have hD1 : H1 D = some (.dK []) := (e1.prot D (.inl (.inr rfl))).trans upd_same
    by_cases c : Nat.ble ps.length 15 = true
    · rw [if_pos c] at p1
      split at p1
      · rename_i d ed
        obtain ⟨more, e2, e3, e4⟩ := putAll_ok (kvs := []) r1 ed (by simp [RVs]) (by simp [RVs])
        have hlen : more.length ≤ 15 := by
          have := relPs_len r1
          have c2 := Nat.le_of_ble_eq_true c
          rw [e2, List.length_map] at this
          omega
        refine ⟨hD1, more, e2, hlen, ?_⟩
        have sg : Sees w1 H1 w1 (upd H1 D (.dK (mergeK [] more))) := guard_set_sees gd.P
        have gd2 := gd.set (o := .dK (mergeK [] more)) hk hD
        have k2 := guard_set_hk (o := .dK (mergeK [] more)) gd.P k1
        refine p1 (w1.bare w.P) _ (.ref D) gd2.done (unguard_hk gd2.P k2) ?_
        simp only [relV, RV]
        exact ⟨D, _, rfl, ⟨upd_same, gd2.free hk hD k2⟩, RVs.mono (sg.trans (unguard_sees gd2.P)) _ _ e3, RVs.mono (sg.trans (unguard_sees gd2.P)) _ _ e4⟩
      · exact p1.elim
    · rw [if_neg c] at p1
      exact p1.elim
end
end Mv
set_option Elab.async false
set_option linter.all false
set_option maxRecDepth 100000
/-! Mv, part S: errors raised; several except clauses, some with a name. -/
namespace Mv
open PySem PySem.Spec PyProof.Rows L2

/-! ### raise X('..') -/
section
variable {X : Cx} {g : Gx} {W : WX}
def raiseM (c : Nat) : MS := fun sl h => .exc ⟨c, none⟩ sl h
/-- what is asked of an own class of errors that has no __init__ -/
structure ErrC (K : PySem.W.Frag) (C : Addr) : Prop where
  ex : PySem.W.excIn K C He.veBase "ValueError.__new__" = true
  kp : PySem.W.keepIn K (.ref C) = true
  sb : PySem.W.subIn K (.ref C) (.type "BaseException") = some true
  ty : PySem.W.typeIn K (.ref C) = some (.type "type")
theorem rs_raise {c j : Nat} {x m : Str} {p p2 pos pos2 : Pos} (hc : X.calm = true) (tk : Takes X W) (E : ErrC X.K (g.adr c)) (gC : X.mg x = some (.ref (g.adr c))) (hg : Gl X x := by rfl)
    (hdb : (x == ("__debug__" : Str)) = false := by decide) : RS X g W (.Raise (some (.Call (.Name x p) [.Constant (.str m) j p2] [] pos)) none pos2) (raiseM c) :=
  ps_imp (ps_raise hc tk (pmk_own PySem.F.excBase_ValueError E.ex gC E.kp (raises_own E.sb E.ty) hg hdb)) fun D σ H ⟨w, sl, h, f, k, pp⟩ => pp w H σ _ none (ExtS.refl _ _) k f ⟨rfl, trivial⟩
end

/-! ### except clauses, some with a name -/
/-- the ends of a suite whose name goes -/
def endsN (i : Nat) (D : Ends) : Ends := { nx := fun u G => D.nx (u.set i none) G, rt := D.rt, bk := fun u G => D.bk (u.set i none) G, ct := fun u G => D.ct (u.set i none) G }
abbrev Cls : Type := Value × (Addr → Value → Option Addr → TS)
inductive HdM (X : Cx) : List ExceptHandler → List Cls → Prop
  | nil : HdM X [] []
  | plain {x : Str} {c : Value} {t : Addr → Value → Option Addr → TS} {b : Stmt} {bs : List Stmt} {p1 p2 : Pos} {r : List ExceptHandler} {l : List Cls} (n : Names X x c)
      (su : ∀ (a : Addr) (oe : Obj) (cls : Value) (d : Option Addr) (pn : List (Addr × Obj)), Zc cls d oe → (∃ fs, oe.data = .fields fs) → PSs (X.suite a ((a, oe) :: pn)) (b :: bs) (t a cls d)) (more : HdM X r l) :
      HdM X (.ExceptHandler (some (.Name x p1)) none (b :: bs) p2 :: r) ((c, t) :: l)
  | named {x y : Str} {i : Nat} {c : Value} {t : Addr → Value → Option Addr → TS} {b : Stmt} {bs : List Stmt} {p1 p2 : Pos} {r : List ExceptHandler} {l : List Cls} (n : Names X x c) (hi : X.N[i]? = some y) (hl : X.env.kindOf y = some .local)
      (su : ∀ (a : Addr) (oe : Obj) (cls : Value) (d : Option Addr) (pn : List (Addr × Obj)), Zc cls d oe → (∃ fs, oe.data = .fields fs) → PSs (X.suite a ((a, oe) :: pn)) (b :: bs) (t a cls d)) (more : HdM X r l) :
      HdM X (.ExceptHandler (some (.Name x p1)) (some y) (b :: bs) p2 :: r) ((c, fun a cls d D σ H => t a cls d (endsN i D) (σ.set i (some (.ref a))) H) :: l)
section
variable {X : Cx} {body : List Stmt} {h0 : ExceptHandler} {hs : List ExceptHandler} {l : List Cls} {pos : Pos} {tb : WX → TS} {Wo : WX}
theorem ps_try_mix (est : X.stack = X.env :: X.outer) (efr : X.env.frame = some X.env.locals) (nd : X.N.Nodup) (tk : Takes X Wo)
    (hb : ∀ (W : WX) (pn : List (Addr × Obj)) (xe : Value → Shared → Prop), Takes (X.tr pn xe) W → PassesOwn (model X.prog X.w) X.A X.env xe → PSs (X.tr pn xe) body (tb W))
    (hh : HdM X (h0 :: hs) l) : PS X (.Try body (h0 :: hs) [] [] pos) (fun D σ H => tb (wMany X.K Wo D l) D σ H) := by
  refine ⟨fun pins st σ H D J t0 => ?_⟩
  have okX := J.ok
  have eA : X.A.frames = some (X.env :: X.outer) := by rw [okX.frames, est]
  refine wpAny_Try_except (wpAny_mono ((hb (wMany X.K Wo D l) (X.pn ++ pins) (fun v u1 => wpAny (model X.prog X.w) X.A (noteFrame v X.env) (fun _ u2 => wpAny (model X.prog X.w) X.A (setFlight v none) (fun _ u3 =>
    wpAny (model X.prog X.w) X.A (handleBy v X.env (h0 :: hs)) (SP X pins D) X.xe u3) X.xe u2) X.xe u1) (fun v u1 up => ?_) PassesOwn.looking).run [] st σ H D (J.toTry _) t0) (fun fl u1 sp => ?_) fun _ _ z => z)
  · obtain ⟨a, B, sI, pins2, σ2, H2, cls, d, rfl, J2, nb, up1, sky, na, os, ag, wi⟩ := up
    have I2 : Inv X pins σ2 H2 sI := J2.ofTry okX
    rw [show (X.tr (X.pn ++ pins) _).stack = X.env :: X.outer from est] at sky
    refine Sky.land Zc.steady eA efr sky fun g3 fl3 up3 => ?_
    have I3 : Inv X pins σ2 H2 { u1 with heap := g3 } := I2.landed nb fl3.1 (up1.trans up3) os ag
    obtain ⟨o3, v3, at3, z3, d3⟩ := fl3.there
    have nfs : a ∉ frs (X.env :: X.outer) := fun m => by
      obtain ⟨_, o', e', q⟩ := fl3.2.2.1.mem m
      rw [at3] at e'
      cases e'
      exact q _ d3
    have neL : a ≠ X.env.locals := fun z => nfs (List.mem_filterMap.mpr ⟨X.env, List.mem_cons_self, by rw [efr, z]⟩)
    have neF : a ∉ X.fs := fun m => by
      obtain ⟨e, he, q⟩ := List.mem_filterMap.mp m
      exact nfs (List.mem_filterMap.mpr ⟨e, List.mem_cons_of_mem _ he, q⟩)
    have S3 := I3.suite at3 d3 na neL neF
    have LT : PySem.W.Looks (model X.prog X.w) g3 (typeOf (.ref a)) cls := fun A Q E s k q => wpAny_typeOf_ref (k _ _ at3) (by rw [z3.1]; exact q)
    have named : ∀ {x : Str} {c : Value} {p : Pos} {Q E : Value → Shared → Prop}, Names X x c → Q c { u1 with heap := g3 } → wpAny (model X.prog X.w) (X.A.mark (some (.ref a))) (eval (.Name x p) X.env) Q E { u1 with heap := g3 } := fun {x c p Q E} n q => by
      obtain ⟨hg, hdb, hm | ⟨hm, hv, hnn⟩⟩ := n
      · exact ld_glob (X := X.suite a ((a, o3) :: (X.pn ++ pins))) S3 hg hm q hdb
      · exact ld_blt (X := X.suite a ((a, o3) :: (X.pn ++ pins))) S3 hg hm hv q hnn hdb
    suffices go : ∀ (hds : List ExceptHandler) (l : List Cls), HdM X hds l → wMany X.K Wo D l cls d σ2 H2 → wpAny (model X.prog X.w) X.A (handleBy (.ref a) X.env hds) (SP X pins D) X.xe { u1 with heap := g3 } from go _ _ hh wi
    intro hds l hk
    induction hk with
    | nil =>
      intro wi
      refine wpAny_handleBy_nil ?_
      obtain ⟨_, _, _, o5, v5, T5, oT5, t5, e5, _, q5, i5, _⟩ := id fl3
      unfold PySem.passOn
      refine wpAny_bind (wpAny_field e5 q5 i5 ?_)
      rw [if_neg (show ¬ ((Value.ref T5 == Value.none) = true) from by simp)]
      have last : wpAny (model X.prog X.w) X.A (setFlight (.ref a) X.env.frame) (fun _ u4 => wpAny (model X.prog X.w) X.A (throw (.ref a) : Sem Flow) (SP X pins D) X.xe u4) X.xe { u1 with heap := g3 } := by
        rw [efr]
        exact HandSPX.setFlight_upZ fl3 fun g4 hh4 up4 => wpAny_throw (tk _ _ ⟨a, B, sI, pins, σ2, H2, cls, d, rfl, I2, nb, (up1.trans up3).trans up4, .inr (.inr (by rw [est]; exact hh4)), na, os, ag, wi⟩)
      first
        | exact wpAny_bind (wpAny_pure (wpAny_bind last))
        | exact wpAny_bind last
    | @plain x c t b bs p1 p2 r l2 n su more ih =>
      intro wi
      obtain ⟨k, e1, yes, no⟩ := wi
      have LM := PySem.W.exm_one (M := model X.prog X.w) I3.kIn LT e1
      refine wpAny_handleBy_cons (codeAny_handlers_test (named n (LM.here ?_))) (by intro q; cases q)
      cases k with
      | false => exact ih (no rfl)
      | true =>
        refine codeAny_handlers_suite (HandSPX.lands_againZ fl3 fun g4 fl4 up4 => ?_)
        have I4 : Inv X pins σ2 H2 { u1 with heap := g4 } := I2.landed nb fl4.1 ((up1.trans up3).trans up4) os ag
        obtain ⟨o4, v4, at4, z4, d4⟩ := fl4.there
        refine wpAny_mono ((su a o4 cls d (X.pn ++ pins) z4 ⟨_, d4⟩).run [] _ _ H2 _ (I4.suite at4 d4 na neL neF) (yes rfl a na)) (fun fl u6 sp => ?_) (fun _ _ z => False.elim z)
        cases fl with
        | ret u =>
          obtain ⟨v6, σ6, H6, S6, r6, q6⟩ := sp
          exact ⟨v6, σ6, H6, S6.unsuite okX, r6, q6⟩
        | _ =>
          obtain ⟨σ6, H6, S6, q6⟩ := sp
          exact ⟨σ6, H6, S6.unsuite okX, q6⟩
    | @named x y i c t b bs p1 p2 r l2 n hi hl su more ih =>
      intro wi
      obtain ⟨k, e1, yes, no⟩ := wi
      have LM := PySem.W.exm_one (M := model X.prog X.w) I3.kIn LT e1
      refine wpAny_handleBy_cons (codeAny_handlers_test (named n (LM.here ?_))) (by intro q; cases q)
      cases k with
      | false => exact ih (no rfl)
      | true =>
        refine codeAny_handlers_suite_as (HandSPX.lands_againZ fl3 fun g4 fl4 up4 => ?_)
        have I4 : Inv X pins σ2 H2 { u1 with heap := g4 } := I2.landed nb fl4.1 ((up1.trans up3).trans up4) os ag
        obtain ⟨o4, v4, at4, z4, d4⟩ := fl4.there
        refine store_ok (X := X.suite a ((a, o4) :: (X.pn ++ pins))) (v := .ref a) (I4.suite at4 d4 na neL neF) nd hi (.inl hl) rfl (fun u5 S5 => ?_) (.inr hl)
        refine wpAny_mono ((su a o4 cls d (X.pn ++ pins) z4 ⟨_, d4⟩).run [] u5 _ H2 _ S5 (yes rfl a na)) (fun fl u6 sp => ?_) (fun _ _ z => False.elim z)
        have fin : ∀ {σ6 : L2.St} {H6 : Hp} {Q : Shared → Prop}, Inv (X.suite a ((a, o4) :: (X.pn ++ pins))) [] σ6 H6 u6 → (∀ u7, Inv X pins (σ6.set i none) H6 u7 → Q u7) →
            wpAny (model X.prog X.w) X.A (do bindName X.env y .none; unbindBehindTheSuite X.env y p2) (fun _ u7 => Q u7) X.xe u6 := fun S6 q => gone_ok (S6.unsuite okX) nd hi hl q
        cases fl with
        | ret u =>
          obtain ⟨v6, σ6, H6, S6, r6, q6⟩ := sp
          exact fin S6 fun u7 J7 => ⟨v6, _, H6, J7, r6, q6⟩
        | _ =>
          obtain ⟨σ6, H6, S6, q6⟩ := sp
          exact fin S6 fun u7 J7 => ⟨_, H6, J7, q6⟩
  · cases fl with
    | next =>
      obtain ⟨σ2, H2, J2, q⟩ := sp
      exact wpAny_execs_nil ⟨σ2, H2, J2.ofTry okX, q⟩
    | ret u =>
      obtain ⟨v, σ2, H2, J2, r, q⟩ := sp
      exact ⟨v, σ2, H2, J2.ofTry okX, r, q⟩
    | _ =>
      obtain ⟨σ2, H2, J2, q⟩ := sp
      exact ⟨σ2, H2, J2.ofTry okX, q⟩
end
end Mv
set_option Elab.async false
set_option linter.all false
set_option maxRecDepth 100000
/-! Mv, part T: a def that tries what it got and answers by the error's class, called with a lambda. -/
namespace Mv
open PySem PySem.Spec PyProof.Rows L2

/-! ### the clauses of such a def -/
/-- what a clause's answer asks -/
abbrev HR := Value → Option Addr → Hp → VK → Prop
def hw (K : PySem.W.Frag) : List (Value × HR) → VK → XK
  | [], _ => fun _ _ _ => False
  | (c, r) :: l, Q => fun cls d H => ∃ b, PySem.W.exmOne K cls c = some b ∧ (b = true → r cls d H Q) ∧ (b = false → hw K l Q cls d H)
inductive HdR (X : Cx) : List ExceptHandler → List (Value × HR) → Prop
  | nil : HdR X [] []
  | plain {x : Str} {c : Value} {r : HR} {e : Expr} {p1 p2 p3 : Pos} {hs : List ExceptHandler} {l : List (Value × HR)} (n : Names X x c)
      (su : ∀ (a : Addr) (oe : Obj) (cls : Value) (d : Option Addr) (pn : List (Addr × Obj)), Zc cls d oe → (∃ fs, oe.data = .fields fs) → PE (X.suite a ((a, oe) :: pn)) e (fun _ H Q => r cls d H Q)) (more : HdR X hs l) :
      HdR X (.ExceptHandler (some (.Name x p1)) none [.Return (some e) p3] p2 :: hs) ((c, r) :: l)
  | named {x y : Str} {i : Nat} {c : Value} {r : HR} {e : Expr} {p1 p2 p3 : Pos} {hs : List ExceptHandler} {l : List (Value × HR)} (n : Names X x c) (hi : X.N[i]? = some y) (hl : X.env.kindOf y = some .local)
      (su : ∀ (a : Addr) (oe : Obj) (cls : Value) (d : Option Addr) (pn : List (Addr × Obj)), Zc cls d oe → (∃ fs, oe.data = .fields fs) → PE (X.suite a ((a, oe) :: pn)) e (fun σ H Q => σ[i]? = some (some (.ref a)) ∧ r cls d H Q)) (more : HdR X hs l) :
      HdR X (.ExceptHandler (some (.Name x p1)) (some y) [.Return (some e) p3] p2 :: hs) ((c, r) :: l)
/-- as clauses of a try: whatever the slots are -/
theorem HdR.mix {X : Cx} {hs : List ExceptHandler} {l : List (Value × HR)} (h : HdR X hs l) : ∃ l2, HdM X hs l2 ∧ ∀ (D : Ends) cls d σ H, hw X.K l D.rt cls d H → wMany X.K W0 D l2 cls d σ H := by
  induction h with
  | nil => exact ⟨[], .nil, fun D cls d σ H z => z.elim⟩
  | @plain x c r e p1 p2 p3 hs l n su more ih =>
    obtain ⟨l2, h2, w2⟩ := ih
    refine ⟨(c, fun a cls d D σ H => r cls d H D.rt) :: l2, .plain n (fun a oe cls d pn z f => pss_imp (pss_one (ps_ret (su a oe cls d pn z f))) fun D σ H q => q) h2, fun D cls d σ H ⟨b, e1, y, no⟩ => ⟨b, e1, fun eb a _ => y eb, fun eb => w2 D cls d σ H (no eb)⟩⟩
  | @named x y i c r e p1 p2 p3 hs l n hi hl su more ih =>
    obtain ⟨l2, h2, w2⟩ := ih
    refine ⟨(c, _) :: l2, .named (t := fun a cls d D σ H => (i < σ.length → σ[i]? = some (some (.ref a))) ∧ r cls d H D.rt) n hi hl (fun a oe cls d pn z f => ?_) h2, fun D cls d σ H ⟨b, e1, yes, no⟩ => ⟨b, e1, fun eb a _ => ⟨fun hlt => ?_, yes eb⟩, fun eb => w2 D cls d σ H (no eb)⟩⟩
    · have ps := pss_one (ps_ret (pos := p3) (su a oe cls d pn z f))
      refine ⟨fun pins s σ H D I q => ?_⟩
      refine ps.run pins s σ H D I ⟨q.1 ?_, q.2⟩
      have h1 := I.len
      have h3 : i < (X.suite a ((a, oe) :: pn)).N.length := (List.getElem?_eq_some_iff.mp hi).1
      omega
    · rw [List.length_set] at hlt
      rw [List.getElem?_set_self hlt]
/-- the def's reading, from the reading of the call -/
def TTm (K : PySem.W.Frag) (hl : List (Value × HR)) (rf : Hp → VK → Prop) : (XK → Hp → VK → Prop) → Hp → VK → Prop := fun tl H Q => tl (hw K hl Q) H fun _ G => rf G Q
theorem met_gives {X : Cx} {Ng : List Str} {x a q : Str} {sg : Scope} {gA : Addr} {cdg : Value} {h0 : ExceptHandler} {hs : List ExceptHandler} {hl : List (Value × HR)} {ef : Expr} {rf : Hp → VK → Prop} {p1 p2 p3 p4 p5 : Pos} (nd : Ng.Nodup)
    (hh : ∀ (s : Shared) (H : Hp), HdR (cxOf C8.CX0 X.prog X.w X.K X.mg X.base Ng x sg gA cdg X.A X.stack s H C8.E0).nox (h0 :: hs) hl)
    (hf : ∀ (s : Shared) (H : Hp), PE (cxOf C8.CX0 X.prog X.w X.K X.mg X.base Ng x sg gA cdg X.A X.stack s H C8.E0).nox ef (fun _ G Q => rf G Q))
    (st0 : ∀ f : Addr, (L2.start Ng [V.ref f])[0]? = some (some (V.ref f)))
    (sw : ∀ (s : Shared) (H : Hp), swapsWith (.Call (.Name a p1) [] [] p2) none p3.line (cxOf C8.CX0 X.prog X.w X.K X.mg X.base Ng x sg gA cdg X.A X.stack s H C8.E0).nox.env = pure false := by intros; rfl) :
    LamX.GivesTo X Ng x sg gA cdg [.Try [.Expr (.Call (.Name a p1) [] [] p2) p3] (h0 :: hs) [] [] p4, .Return (some ef) p5] a q (TTm X.K hl rf) := by
  intro f c' s H Q tl act hc h
  obtain ⟨l2, h2, w2⟩ := (hh s H).mix
  refine ⟨_, pss_cons (ps_try_mix (tb := fun W D σ H => ∃ Ech : XK, (∀ cls d σ' H', Ech cls d H' → W cls d σ' H') ∧ σ[0]? = some (some (.ref f)) ∧ H c' = some (LamX.CodeO c' q) ∧ tl Ech H fun _ G => D.nx σ G)
      (Wo := W0) rfl rfl nd takes0 (fun W pn xe tk _ => ?_) h2) (pss_one (ps_ret (hf s H))), ?_⟩
  · refine ⟨fun pins u σ G D I q => ?_⟩
    obtain ⟨Ech, hW, h1, h3, h4⟩ := q
    exact (pss_one (ps_expr (pos := p3) (act W pn xe Ech p1 p2 tk hW) (sw s H))).run pins u σ G D I ⟨h1, h3, h4⟩
  · exact ⟨hw X.K hl Q, fun cls d σ' G z => w2 _ cls d σ' G z, st0 f, hc, h⟩

/-! ### tables -/
def tabsOk : List (Nat × Str) → VH → Bool
  | [], _ => true
  | p :: r, .tbl n q :: h => decide (p.1 = n) && (decide (p.2 = q) && tabsOk r h)
  | _ :: _, _ => false
theorem tabsOk_at : ∀ {ts : List (Nat × Str)} {h : VH}, tabsOk ts h = true → ∀ p ∈ ts, ∃ i : Nat, h[i]? = some (.tbl p.1 p.2)
  | [], _, _, p, hp => by cases hp
  | t :: r, [], e, p, hp => by cases e
  | t :: r, .lst _ :: h, e, p, hp => by cases e
  | t :: r, .dead :: h, e, p, hp => by cases e
  | t :: r, .tbl n q :: h, e, p, hp => by
    unfold tabsOk at e
    simp only [Bool.and_eq_true, decide_eq_true_eq] at e
    rcases List.mem_cons.mp hp with z | z
    · subst z
      exact ⟨0, by rw [e.1, e.2.1]; rfl⟩
    · obtain ⟨i, hi⟩ := tabsOk_at e.2.2 p z
      exact ⟨i + 1, hi⟩
section
variable {K : PySem.W.Frag} {g : Gx} {w : Wd} {H H1 : Hp} {h : VH} {ts : List (Nat × Str)}
def tabsT (g : Gx) (ts : List (Nat × Str)) : List (Addr × Str) := ts.map fun p => (g.adr p.1, p.2)
theorem tab_at (k : Hk K g.adr w h H) {i n : Nat} {q : Str} (e : h[i]? = some (.tbl n q)) : w.phi[i]? = some (some (g.adr n)) ∧ TabW w H (g.adr n) q := by
  obtain ⟨a, ha⟩ := k.has i _ e (by intro z; cases z)
  obtain ⟨o, e1, r⟩ := k.obj i a ha
  rw [e] at e1
  cases e1
  obtain ⟨rfl, r⟩ := r
  exact ⟨ha, r⟩
theorem tabs_of (k : Hk K g.adr w h H) (ok : tabsOk ts h = true) : LamX.Tabs (tabsT g ts) H := fun p hp => by
  obtain ⟨t, ht, rfl⟩ := List.mem_map.mp hp
  obtain ⟨i, hi⟩ := tabsOk_at ok t ht
  obtain ⟨_, ps, h1, h2, h3⟩ := tab_at k hi
  exact ⟨ps, h1, h2, fun pos cv z => by
    obtain ⟨c, e1, e2, _⟩ := h3 pos cv z
    exact ⟨c, e1, e2⟩⟩
/-- every table of the small heap is among ts -/
def onlyT (ts : List (Nat × Str)) (h : VH) : Bool := h.all fun o => match o with
  | .tbl n q => decide ((n, q) ∈ ts)
  | _ => true
theorem tbl_mut (k : Hk K g.adr w h H) {a : Addr} {ps : Array Value} (e : H a = some (.tbl ps)) : w.mut a := .inl (k.spc a _ e)
/-- what the making of a lambda may change: the maker's table; a new code object -/
def LamN (P : Addr) (H H1 : Hp) : Prop := ∀ a, a ≠ P → H1 a = H a ∨ (H a = none ∧ ∃ q, H1 a = some (LamX.CodeO a q))
theorem LamN.refl (P : Addr) (H : Hp) : LamN P H H := fun _ _ => .inl rfl
theorem lam_ext {P : Addr} (k : Hk K g.adr w h H) (eN : LamN P H H1) (hP : some P ∈ w.phi) : Ext w H w H1 where
  keep := fun a o q m => by
    rcases eN a (fun e => m (.inl (by rw [e]; exact hP))) with z | ⟨z, _⟩
    · exact ⟨z.trans q, m⟩
    · rw [q] at z; cases z
  refs := fun _ _ _ q => q
  len := Nat.le_refl _
  P := rfl
  O := rfl
  prot := fun a ha => by
    obtain ⟨h1, h2⟩ := k.prot a ha
    rcases eN a (fun e => h2 (by rw [e]; exact hP)) with z | ⟨z, _⟩
    · exact z
    · exact (h1 z).elim
theorem lam_hk {i n : Nat} {q : Str} (k : Hk K g.adr w h H) (e : h[i]? = some (.tbl n q)) (eN : LamN (g.adr n) H H1) (t : LamX.TabS H1 (g.adr n) q) : Hk K g.adr w h H1 := by
  obtain ⟨hi, _⟩ := tab_at k e
  have hP : some (g.adr n) ∈ w.phi := List.mem_of_getElem? hi
  have ex := lam_ext k eN hP
  have sp : Spcs w H1 := fun a o q1 => by
    by_cases c : a = g.adr n
    · obtain ⟨ps, h1, _⟩ := t
      rw [c, h1] at q1
      cases q1
      rw [c]
      exact hP
    · rcases eN a c with z | ⟨z, q2, z2⟩
      · rw [z] at q1
        exact k.spc a o q1
      · rw [z2] at q1
        cases q1
        exact fun m => k.live m z
  refine ⟨k.len, k.inj, fun m a hm => ?_, k.has, fun a ha => ?_, k.own, k.ownI, sp⟩
  · obtain ⟨u, h1, h2⟩ := k.obj m a hm
    by_cases c : a = g.adr n
    · subst c
      have em : m = i := k.inj _ _ _ hm hi
      subst em
      rw [e] at h1
      cases h1
      refine ⟨_, e, rfl, ?_⟩
      obtain ⟨ps, t1, t2, t3⟩ := t
      exact ⟨ps, t1, t2, fun pos cv z => by
        obtain ⟨c, e1, e2⟩ := t3 pos cv z
        exact ⟨c, e1, e2, sp c _ e2⟩⟩
    · refine ⟨u, h1, RO.mono ex.sees u a (fun z q1 => ?_) h2⟩
      rcases eN a c with z2 | ⟨z2, _⟩
      · rw [z2]; exact q1
      · rw [q1] at z2; cases z2
  · obtain ⟨h1, h2⟩ := k.prot a ha
    exact ⟨by rw [ex.prot a ha]; exact h1, h2⟩
end

/-! ### a lambda is made -/
section
variable {X : Cx} {pins : List (Addr × Obj)} {σ : L2.St} {H : Hp} {s : Shared}
/-- the one table of the maker -/
theorem lam_mk {c P : Addr} {q : Str} {params : Arguments} {body : Expr} {scope : Scope} {pos : Pos} {E : Value → Shared → Prop} {Q : Value → Shared → Prop} (J : Inv X pins σ H s) (TB : LamX.TabB X.base X.mg c P) (ec : X.env.code = .ref c)
    (eq : q = X.env.qual ++ "<lambda>") (hT : LamX.TabS H P q) (ed : defaultsOf params X.env = ([], [])) (fr : ∀ y ∈ scope.names, y.2 = .free → ∃ c, X.env.cells.lookup y.1 = some c)
    (go : ∀ (f c2 : Addr) (pm ct : Value) (G : Hp) (u : Shared), Inv X pins σ G u → LamN P H G → LamX.TabS G P q →
      u.heap.get? f = some (PySem.W.kla_obj "<lambda>" (X.env.qual ++ "<lambda>") params body scope (cloFrom X.env.cells scope.names []) pm c2 ct) → G f = none → f ∉ frs X.stack → G c2 = some (LamX.CodeO c2 q) → Q (.ref f) u) :
    wpAny (model X.prog X.w) X.A (eval (.Lambda params body scope pos) X.env) Q E s := by
  subst eq
  obtain ⟨tb, eP, tri, all⟩ := hT
  have bP : s.heap.BuiltinsAt X.mg P := TB.bm.keeps J.bk
  have getP : s.heap.get? P = some { cls := .none, data := .fields tb } := J.hok P _ eP
  have away : ∀ z, s.heap.objs.size ≤ z → z ∉ frs X.stack := fun z hz m => by
    rcases List.mem_cons.mp (J.stkSub _ m) with e | e
    · have lt := J.lt
      rw [← e] at lt
      exact absurd (Nat.lt_of_lt_of_le lt hz) (Nat.lt_irrefl _)
    · exact J.nofs hz e
  refine PySem.W.kla_eval ed ?_
  cases am : codeAmong pos tb.toList with
  | some v =>
    obtain ⟨c2, rfl, e2⟩ := all pos v am
    refine PySem.W.kla_makeFunctionHit (mg := X.mg) (c := c) (P := P) (ps := tb) (closure_ok fr) J.ok.glob (J.mod.glob.keeps J.bk) ec (TB.code.keeps J.bk) getP tri am bP fun ct g2 k2 hx hz => ?_
    exact go g2.objs.size c2 _ ct H _ (J.kept fun b o e => Heap.get?_push_of_some _ (hx b o e)) (LamN.refl P H) ⟨tb, eP, tri, all⟩ (Heap.get?_push_size _ rfl) (J.hok.fresh hz) (away _ hz) e2
  | none =>
    refine PySem.W.kla_makeFunction (mg := X.mg) (c := c) (P := P) (ps := tb) (closure_ok fr) J.ok.glob (J.mod.glob.keeps J.bk) ec (TB.code.keeps J.bk) getP tri am TB.gP bP fun c2 ct g2 k2 hx ge lt rec put => ?_
    obtain ⟨_, oc, vs, tk, e2, hoc, hd, hv⟩ := rec
    cases e2
    have big : s.heap.objs.size ≤ g2.objs.size := Nat.le_trans ge (Nat.le_of_lt lt)
    have new : H c2 = none := J.hok.fresh ge
    have nPc : P ≠ c2 := ne_of_none eP new
    have J2 := LamX.inv_table (t' := k2) (more := #[rawInt pos.line, rawInt pos.col, .ref c2]) (h' := g2.push (PySem.W.kla_obj "<lambda>" (X.env.qual ++ "<lambda>") params body scope (cloFrom X.env.cells scope.names []) ((X.mg "__name__").getD .none) c2 ct)) J eP
      (fun b o hb e => Heap.get?_push_of_some _ (hx b o hb e)) (Heap.get?_push_of_some _ put) ge ⟨oc, vs, tk, Heap.get?_push_of_some _ hoc, hd, hv⟩
    have n1 : g2.objs.size ≠ c2 := Nat.ne_of_gt lt
    have n2 : g2.objs.size ≠ P := Nat.ne_of_gt (Nat.lt_of_lt_of_le (Heap.lt_size getP) big)
    refine go g2.objs.size c2 _ ct _ _ J2 (fun a ha => ?_) ⟨_, by rw [upd_ne nPc, upd_same], ?_, fun p2 v hv2 => ?_⟩ (Heap.get?_push_size _ rfl) ?_ (away _ big) upd_same
    · by_cases ea : a = c2
      · subst ea
        exact .inr ⟨new, _, upd_same⟩
      · exact .inl (by rw [upd_ne ea, upd_ne ha])
    · rw [show (tb ++ #[rawInt pos.line, rawInt pos.col, .ref c2]).toList = tb.toList ++ [rawInt pos.line, rawInt pos.col, .ref c2] by simp]
      exact PySem.TriplesOk_snoc _ _ _ _ tri
    · rw [show (tb ++ #[rawInt pos.line, rawInt pos.col, .ref c2]).toList = tb.toList ++ [rawInt pos.line, rawInt pos.col, .ref c2] by simp] at hv2
      rcases LamX.among_app _ tri hv2 with z | z
      · obtain ⟨c3, e1, e2⟩ := all p2 v z
        have n3 : c3 ≠ c2 := ne_of_none e2 new
        have n4 : c3 ≠ P := fun e => by
          rw [e, eP] at e2
          exact absurd (Option.some.inj e2).symm (LamX.codeO_ne _)
        exact ⟨c3, e1, by rw [upd_ne n3, upd_ne n4]; exact e2⟩
      · exact ⟨c2, z, upd_same⟩
    · rw [upd_ne n1, upd_ne n2]
      exact J.hok.fresh big
def tLamN (P : Addr) (q : Str) (TT : (XK → Hp → VK → Prop) → Hp → VK → Prop) (t : XK → TE) : TE := fun σ H Q => LamX.TabS H P q ∧ ∀ G, LamN P H G → LamX.TabS G P q → TT (fun E G' Q' => t E σ G' Q') G Q
/-- x(lambda: body), x a def that is in K -/
theorem pe_lamN {TT : (XK → Hp → VK → Prop) → Hp → VK → Prop} {x a q : Str} {gA c P : Addr} {k : Nat} {pg : Arguments} {bg : List Stmt} {sg : Scope} {dV kV doc pm cdv ct oc : Value} {an od : Option Addr} {osl : Array (Option Value)} {Ng : List Str}
    {params : Arguments} {body : Expr} {scope : Scope} {t : XK → TE} {p lpos pos : Pos} (hg : Gl X x) (hm : X.mg x = some (.ref gA)) (hk : PySem.W.keepIn X.K (.ref gA) = true)
    (lk : X.K.lookup gA = some ⟨oc, od, .func (PySem.W.fnOf x x pg bg sg dV kV doc pm an cdv ct), osl⟩) (hcg : PySem.W.codeIn X.K cdv x = true) (hb : L2.Binds X.K (PySem.W.fnOf x x pg bg sg dV kV doc pm an cdv ct) [a] []) (Sg : FnScope Ng [a] sg) (hNg : Ng[0]? = some a) (hva : Vis sg a)
    (eq : q = X.env.qual ++ "<lambda>") (hG : LamX.GivesTo X Ng x sg gA cdv bg a (X.env.qual ++ "<lambda>") TT)
    (TB : LamX.TabB X.base X.mg c P) (ec : X.env.code = .ref c) (hr : Room (k + 2) X.A) (L : LamX.LamS X.env.scope scope) (ed : defaultsOf params X.env = ([], []))
    (hbind : ∀ (q : Str) (cl : List (Str × Addr)) (pm cv ctv : Value), bindArgs (PySem.W.kla_fn "<lambda>" q params body scope cl pm cv ctv) ⟨[], []⟩ = pure [])
    (hbody : ∀ (A : Around) (outer : List Env) (s : Shared) (H : Hp) (E : XK) (f c' : Addr), Room k (A.deeper (LamX.lamEnv X scope s.heap.objs.size f c')) → PE (LamX.lamCx X A outer s H E scope f c') body (t E))
    (hdb : (x == ("__debug__" : Str)) = false := by decide) (hd : (a == ("__debug__" : Str)) = false := by decide) (hcd : (a == ("__classdict__" : Str)) = false := by decide) :
    PE X (.Call (.Name x p) [.Lambda params body scope lpos] [] pos) (tLamN P q TT t) := by
  refine ⟨fun pins u σ G Q J tt => ?_⟩
  obtain ⟨hT, tt⟩ := tt
  refine wpAny_Call_Name_kw (ld_glob J hg hm (PySem.W.callWith_K (h₀ := X.base) J.ok.mod.kin hk ?_ (by rfl) (by rfl)) hdb)
  show wpAny _ _ (spliced ((false, eval (.Lambda params body scope lpos) X.env) :: backTo pos (starEach [] X.env))) _ _ u
  refine Calls.spliced_cons (lam_mk J TB ec eq hT ed (L.has J.ok) fun f c2 pm2 ct2 G2 u2 J2 lN T2 hf hfn hfr hco => ?_)
  subst eq
  refine Calls.spliced_nil ⟨J2.kIn, ?_⟩
  have run : codeAny (model X.prog X.w) X.A (.call (.ref gA) ⟨[.ref f], []⟩) (CR C8.CX0 X.stack X.prog X.w G2 u2 Q C8.E0) u2 := by
    refine LamX.run_ofS (N := Ng) (ps := [a]) (us := [.ref f]) (vs := [.ref f]) lk hcg Sg hr J2.env0 (hb u2 [.ref f] J2.kIn rfl) (.cons rfl .nil) rfl fun hr2 => ?_
    obtain ⟨t', ht', hq'⟩ := hG f c2 u2 G2 Q (fun E H' Q' => t E σ H' Q') (fun W pn xe E p1 p2 tk hW => LamX.pe_act (i := 0) J2 L hf hfn hfr (hbind _ _ _ _ _) tk hW hr2 (fun A outer s H hr3 => hbody A outer s H E f c2 hr3) hNg hva hd hcd) hco (tt G2 lN T2)
    exact ⟨t', ht'.nox, hq'⟩
  refine wpAny_call (codeAny_mono run fun r u3 hq => ?_)
  cases r with
  | error e => exact (show False from hq).elim
  | ok fl =>
    cases fl with
    | ret v => exact J2.after hq
    | _ => exact False.elim hq
end
end Mv
set_option Elab.async false
set_option linter.all false
set_option maxRecDepth 100000
/-! Mv, part U: repr; the answers of clauses; the mirror of a lambda's call. -/
namespace Mv
open PySem PySem.Spec PyProof.Rows L2

/-! ### repr(data) -/
def rRepr (K : PySem.W.Frag) : List V → Hp → VK → Prop := fun xs H Q => ∃ v d, xs = [v] ∧ Dp K H v d ∧ d.showable = true ∧ d.hasDict = false ∧ d.depth ≤ 40 ∧ d.shown.length ≤ sizeLine ∧ Q (.str d.shown) H
theorem call_reprD {X : Cx} (hg : X.A.guards = some []) (hu : X.A.units + 64 < cLine) : CallR X (.builtin "repr") (rRepr X.K) := by
  intro pins s σ H xs us Q I r h
  obtain ⟨v, d, rfl, dp, h1, h2, h3, h4, q⟩ := h
  obtain ⟨u, rfl, ru⟩ := vals1 r
  obtain ⟨as, rd⟩ := Dp.reads I d v u dp ru
  have gd : PySem.PyData.hasDict d = true → sysModules ∉ as := fun z => by rw [h2] at z; cases z
  cases rd with
  | none => exact PySem.P.repr_of_none ⟨.str _, H, I.tok _, ⟨_, rfl⟩, q⟩
  | bool b => exact PySem.P.repr_of_bool ⟨.str _, H, I.tok _, ⟨_, rfl⟩, q⟩
  | int i t => exact PySem.P.repr_of_int (of_decide_eq_true h1) ⟨.str _, H, I.tok _, ⟨_, rfl⟩, q⟩
  | str x t => exact PySem.P.repr_of_str ⟨.str _, H, I.tok _, ⟨_, rfl⟩, q⟩ h4
  | list e1 e2 e3 e4 => exact repr_of_reads' (h₀ := s.heap) (.list e1 e2 e3 e4) h1 gd hg (by omega) (fun _ _ z => z) (fun h' u tk k => ⟨.str _, H, I.kept k, ⟨_, rfl⟩, q⟩) h4
  | tuple e1 e2 e3 e4 => exact repr_of_reads' (h₀ := s.heap) (.tuple e1 e2 e3 e4) h1 gd hg (by omega) (fun _ _ z => z) (fun h' u tk k => ⟨.str _, H, I.kept k, ⟨_, rfl⟩, q⟩) h4
  | dict e1 e2 e3 e4 e5 => cases dp
/-- the text of a value -/
def reprV (v : VV) : Option Str := (toPy v).bind fun d => if d.showable && (!d.hasDict && (Nat.ble d.depth 40 && Nat.ble d.shown.length 1000)) then some d.shown else none
theorem reprV_ok {K : PySem.W.Frag} {G : Nat → Addr} {w : Wd} {H : Hp} {v : VV} {y : V} {t : Str} {Q : VK} (e : reprV v = some t) (r : RV K G w H v y) (q : Q (.str t) H) : rRepr K [y] H Q := by
  unfold reprV at e
  obtain ⟨d, e1, e⟩ := Option.bind_eq_some_iff.mp e
  split at e
  · rename_i c
    cases e
    simp only [Bool.and_eq_true, Bool.not_eq_true'] at c
    obtain ⟨c1, c2, c3, c4⟩ := c
    have z := Nat.le_of_ble_eq_true c4
    exact ⟨y, d, rfl, toPy_ok _ _ _ e1 r, c1, c2, Nat.le_of_ble_eq_true c3, by rw [sizeLine_eq]; omega, q⟩
  · cases e
def reprF (vs : List VV) (h : VH) : Out VV := match vs with
  | [v] => (match reprV v with
    | some t => .ok (.str t) h
    | none => .bad)
  | _ => .bad
section
variable {X : Cx} {g : Gx} {W : WX} {e : Expr} {es : List Expr} {ma : MA} {p pos : Pos}
theorem re_repr (hgd : X.A.guards = some []) (hu : X.A.units + 64 < cLine) (hm : X.mg "repr" = none) (ha : RA X g W (e :: es) ma) (hg : Gl X "repr" := by rfl)
    (he : starEach (e :: es) X.env = (false, eval e X.env) :: starEach es X.env := by rfl) (hpl : (backTo pos (starEach es X.env)).any (·.1) = false := by rfl) :
    RE X g W (.Call (.Name "repr" p) (e :: es) [] pos) (callM reprF ma) :=
  pe_imp (pe_callB (call_reprD hgd hu) hg hm (by rfl) ha (he := he) (hpl := hpl)) fun σ H Q ⟨w, sv, h, rs, hk, pp⟩ => by
    refine seqG' rs hk pp fun w1 H1 h1 vs y e1 rs1 k1 r1 p1 => ?_
    unfold reprF at p1
    split at p1
    · rename_i v
      split at p1
      · rename_i t et
        simp only [relVs, RVs] at r1
        obtain ⟨z, r, rfl, r2, rfl⟩ := r1
        exact reprV_ok et r2 (p1.here k1 (by simp only [relV, RV]))
      · exact p1.elim
    · exact p1.elim
end
end Mv
set_option Elab.async false
set_option linter.all false
set_option maxRecDepth 100000
/-! Mv, part V: the call of a def with a lambda. -/
namespace Mv
open PySem PySem.Spec PyProof.Rows L2

/-! ### clauses' answers -/
inductive HK where
  | txt (s : Str) | rep (pre : Str)
def HK.mir : HK → Bool → Option VV → Option VV
  | .txt s, _, _ => some (.str s)
  | .rep pre, true, some v => (reprV v).bind fun t => if fits (pre.length + t.length) then some (.str (pre ++ t)) else none
  | .rep _, _, _ => none
def hmGo (exm : Nat → Nat → Option Bool) : List (Nat × HK) → Exn → Option VV
  | [], _ => none
  | p :: l, x => match exm x.c p.1 with
    | some true => p.2.mir (decide (x.c = p.1)) x.pay
    | some false => hmGo exm l x
    | none => none
def HK.rd (K : PySem.W.Frag) (C : Addr) (f : Str) : HK → HR
  | .txt s => fun _ _ H Q => Q (.str s) H
  | .rep pre => fun cls d H Q => cls = .ref C ∧ ∃ (dd : Addr) (fs : List (Str × V)) (v : V), d = some dd ∧ H dd = some (.xd fs) ∧ fs.lookup f = some v ∧ rRepr K [v] H fun y H1 => ∃ t, y = .str t ∧ pre.length + t.length ≤ sizeLine ∧ Q (.str (pre ++ t)) H1
def hlOf (K : PySem.W.Frag) (g : Gx) (hs : List (Nat × HK)) : List (Value × HR) := hs.map fun p => (.ref (g.adr p.1), p.2.rd K (g.adr p.1) (g.fld p.1))
/-- what is known of who catches whom -/
def ExmOk (K : PySem.W.Frag) (g : Gx) (exm : Nat → Nat → Option Bool) : Prop := ∀ c c' b, exm c c' = some b → PySem.W.exmOne K (.ref (g.adr c)) (.ref (g.adr c')) = some b
theorem hm_ok {K : PySem.W.Frag} {g : Gx} {w : Wd} {H : Hp} {h : VH} {exm : Nat → Nat → Option Bool} {x : Exn} {v : VV} {cls : Value} {d : Option Addr} {Q : VK} (EX : ExmOk K g exm) (k : Hk K g.adr w h H) (rx : RX K g w H x cls d)
    (p : ∀ y, RV K g.adr w H v y → Q y H) : ∀ {hs : List (Nat × HK)}, hmGo exm hs x = some v → hw K (hlOf K g hs) Q cls d H
  | [], e => by cases e
  | t :: l, e => by
    unfold hmGo at e
    obtain ⟨ec, rp⟩ := rx
    cases q : exm x.c t.1 with
    | none => rw [q] at e; cases e
    | some b =>
      rw [q] at e
      refine ⟨b, by rw [ec]; exact EX _ _ _ q, fun eb => ?_, fun eb => ?_⟩
      · subst eb
        obtain ⟨c, kd⟩ := t
        cases kd with
        | txt s =>
          simp only [HK.mir, Option.some.injEq] at e
          subst e
          exact p _ (by simp only [RV])
        | rep pre =>
          cases ep : x.pay with
          | none =>
            rw [ep] at e
            cases ed : decide (x.c = c) <;> simp only [ed, HK.mir] at e <;> cases e
          | some pv =>
            rw [ep] at e rp
            obtain ⟨dd, y, h1, h2, _, h4⟩ := rp
            by_cases eq : x.c = c
            · subst eq
              simp only [decide_true, HK.mir] at e
              obtain ⟨t, e1, e2⟩ := Option.bind_eq_some_iff.mp e
              split at e2
              · rename_i hf
                cases e2
                refine ⟨ec, dd, _, y, h1, h2, ?_, reprV_ok e1 h4 ⟨t, rfl, fits_le hf, p _ (by simp only [RV])⟩⟩
                simp [List.lookup]
              · cases e2
            · simp only [decide_eq_false eq, HK.mir] at e
              cases e
      · subst eb
        exact hm_ok EX k ⟨ec, rp⟩ p e
section
variable {Y : Cx} {K : PySem.W.Frag} {C a : Addr} {oe : Obj} {cls : Value} {d : Option Addr} {pn : List (Addr × Obj)} {f s pre y : Str} {i j : Nat} {p p1 p2 p3 p4 p5 p6 : Pos}
theorem hd_txt : PE (Y.suite a ((a, oe) :: pn)) (.Constant (.str s) j p) (fun _ H Q => (HK.txt s).rd K C f cls d H Q) := pe_imp pe_str fun _ _ _ q => q
theorem hd_rep (hgd : Y.A.guards = some []) (hu : Y.A.units + 64 < cLine) (T : XfC Y.K C) (no : PySem.W.findIn Y.K (.ref C) f = some none) (hz : Zc cls d oe) (hf : ∃ fs, oe.data = .fields fs) (hi : Y.N[i]? = some y) (hl : Y.env.kindOf y = some .local)
    (hm : Y.mg "repr" = none) (hg : Gl Y "repr" := by rfl) (hb : attributeBase (.Name y p3) f Y.env (eval (.Name y p3) Y.env) = eval (.Name y p3) Y.env := by rfl) (hdb : (y == ("__debug__" : Str)) = false := by decide) (hcd : (y == ("__classdict__" : Str)) = false := by decide)
    (he : starEach [.Attribute (.Name y p3) f p4] Y.env = [(false, eval (.Attribute (.Name y p3) f p4) Y.env)] := by rfl) :
    PE (Y.suite a ((a, oe) :: pn)) (.BinOp (.Constant (.str pre) j p1) .Add (.Call (.Name "repr" p2) [.Attribute (.Name y p3) f p4] [] p5) p6) (fun σ H Q => σ[i]? = some (some (.ref a)) ∧ (HK.rep pre).rd Y.K C f cls d H Q) := by
  have nm : PE (Y.suite a ((a, oe) :: pn)) (.Name y p3) (tVar i) := pe_var hi (.inl hl) hdb hcd
  have at_ := pe_xf (X := Y) (pos := p4) T no hz hf nm hb
  have cl := pe_callB (X := Y.suite a ((a, oe) :: pn)) (p := p2) (pos := p5) (call_reprD (X := Y.suite a ((a, oe) :: pn)) hgd hu) hg hm (by rfl) (pa_cons at_ pa_nil) (he := by rw [he]; rfl) (hpl := by rfl)
  refine pe_imp (pe_op (pos := p6) op_addA pe_str cl) fun σ H Q ⟨h0, ec, dd, fs, v, e1, e2, e3, q⟩ => ?_
  refine ⟨_, h0, rfl, ec, dd, fs, v, e1, e2, e3, ?_⟩
  obtain ⟨v', dt, ev, c1, c2, c3, c4, c5, t, et, le, q⟩ := q
  cases ev
  refine ⟨v, dt, rfl, c1, c2, c3, c4, c5, ?_⟩
  cases et
  exact .inr (.inr (.inr (.inr ⟨_, _, rfl, rfl, le, q⟩)))
end

/-! ### the call -/
def lamM (i n : Nat) (q : Str) (fin : Str) (exm : Nat → Nat → Option Bool) (hs : List (Nat × HK)) (m : ME) : ME := fun sv h => match h[i]? with
  | some (.tbl n' q') => if n' = n ∧ q' = q then (match m sv h with
    | .ok _ h1 => .ok (.str fin) h1
    | .exc x h1 => (match hmGo exm hs x with
      | some v => .ok v h1
      | none => .bad)
    | .bad => .bad) else .bad
  | _ => .bad
section
variable {X : Cx} {g : Gx} {W : WX}
theorem re_met {exm : Nat → Nat → Option Bool} {hs : List (Nat × HK)} {fin q x a : Str} {ti n : Nat} {gA c : Addr} {k : Nat} {pg : Arguments} {bg : List Stmt} {sg : Scope} {dvs : List V} {kws : List (Str × V)} {fd : FuncData} {Ng : List Str} {h0 : ExceptHandler} {hds : List ExceptHandler}
    {params : Arguments} {body : Expr} {scope : Scope} {m : ME} {p lpos pos p1 p2 p3 p4 p5 p6 : Pos} {j : Nat} (EX : ExmOk X.K g exm) (hm : X.mg x = some (.ref gA)) (F : FunD X.K x x pg bg sg dvs kws gA fd) (B : Binds X.K fd [a] []) (Sg : FnScope Ng [a] sg)
    (hh : ∀ (cdg : Value) (s : Shared) (H : Hp), HdR (cxOf C8.CX0 X.prog X.w X.K X.mg X.base Ng x sg gA cdg X.A X.stack s H C8.E0).nox (h0 :: hds) (hlOf X.K g hs))
    (eb : bg = [.Try [.Expr (.Call (.Name a p1) [] [] p2) p3] (h0 :: hds) [] [] p4, .Return (some (.Constant (.str fin) j p6)) p5]) (st0 : ∀ f : Addr, (L2.start Ng [V.ref f])[0]? = some (some (V.ref f)))
    (hNg : Ng[0]? = some a) (hva : Vis sg a)
    (TB : LamX.TabB X.base X.mg c (g.adr n)) (ec : X.env.code = .ref c) (eq : q = X.env.qual ++ "<lambda>") (hr : Room (k + 2) X.A) (L : LamX.LamS X.env.scope scope) (ed : defaultsOf params X.env = ([], []))
    (hbind : ∀ (q : Str) (cl : List (Str × Addr)) (pm cv ctv : Value), bindArgs (PySem.W.kla_fn "<lambda>" q params body scope cl pm cv ctv) ⟨[], []⟩ = pure [])
    (hbody : ∀ (A : Around) (outer : List Env) (s : Shared) (H : Hp) (E : XK) (f c' : Addr), Room k (A.deeper (LamX.lamEnv X scope s.heap.objs.size f c')) → RE (LamX.lamCx X A outer s H E scope f c') g (WK E) body m)
    (hg : Gl X x := by rfl) (hdb : (x == ("__debug__" : Str)) = false := by decide) (hd : (a == ("__debug__" : Str)) = false := by decide) (hcd : (a == ("__classdict__" : Str)) = false := by decide) :
    RE X g W (.Call (.Name x p) [.Lambda params body scope lpos] [] pos) (lamM ti n q fin exm hs m) := by
  subst eb
  obtain ⟨oc, od, dV, kV, doc, pm, an, cdv, ct, osl, rfl, lk, hcg, _, _⟩ := F.ex
  have hG : LamX.GivesTo X Ng x sg gA cdv [.Try [.Expr (.Call (.Name a p1) [] [] p2) p3] (h0 :: hds) [] [] p4, .Return (some (.Constant (.str fin) j p6)) p5] a (X.env.qual ++ "<lambda>") (TTm X.K (hlOf X.K g hs) fun G Q => Q (.str fin) G) :=
    met_gives (p1 := p1) (p2 := p2) (p3 := p3) (p4 := p4) (p5 := p5) Sg.nd (fun s H => hh cdv s H) (fun s H => pe_imp pe_str fun _ _ _ q => q) st0
  refine pe_imp (pe_lamN (t := fun E => tG X.K g (relV X.K g) m (WK E)) hg hm F.kp lk hcg B Sg hNg hva eq hG TB ec hr L ed hbind hbody hdb hd hcd) fun σ H Q ⟨w, sv, h, rs, hk, pp⟩ => ?_
  unfold lamM at pp
  split at pp
  · rename_i n' q' eh
    split at pp
    · rename_i c
      obtain ⟨rfl, rfl⟩ := c
      obtain ⟨hi, tw⟩ := tab_at hk eh
      have t1 : LamX.TabS H (g.adr n') q' := by
        obtain ⟨ps, h1, h2, h3⟩ := tw
        exact ⟨ps, h1, h2, fun pos cv z => by
          obtain ⟨c, e1, e2, _⟩ := h3 pos cv z
          exact ⟨c, e1, e2⟩⟩
      refine ⟨t1, fun G lN t2 => ?_⟩
      have ex := lam_ext hk lN (List.mem_of_getElem? hi)
      refine ⟨w, sv, h, rs.mono _ _ ex.sees, lam_hk hk eh lN t2, ?_⟩
      cases em : m sv h with
      | ok v h1 =>
        rw [em] at pp
        exact fun w2 H2 y e2 k2 _ => pp w2 H2 (.str fin) (ex.trans e2) k2 (by simp only [relV, RV])
      | exc x h1 =>
        rw [em] at pp
        intro w2 H2 cls d e2 k2 rx
        dsimp only at pp
        cases eh2 : hmGo exm hs x with
        | none =>
          rw [eh2] at pp
          exact pp.elim
        | some v =>
          rw [eh2] at pp
          exact hm_ok EX k2 rx (fun y ry => pp w2 H2 y (ex.trans e2) k2 ry) eh2
      | bad =>
        rw [em] at pp
        exact pp.elim
    · exact pp.elim
  · exact pp.elim
end
end Mv
set_option Elab.async false
set_option linter.all false
set_option maxRecDepth 100000
/-! Mv, part W: defs run where no repr is under way; calls of defs that a name holds. -/
namespace Mv
open PySem PySem.Spec PyProof.Rows L2

/-- a promise given where no repr is under way -/
structure FnG (P : Program) (w : World) (K : PySem.W.Frag) (mg : Str → Option Value) (base : Heap) (k : Nat) (f : Addr) (fd : FuncData) (ps : List Str) (sp : Sp) : Prop where
  len : ∀ vs H Q E, sp vs H Q E → vs.length = ps.length
  run : ∀ (A : Around) (outer : List Env) (s : Shared) (H : Hp) (args : Args) (us : List Value) (vs : List V) (Q : VK) (E : XK), A.guards = some [] → Room k A → Env0 P w K mg base A outer s H → BindsTo s fd args (ps.zip us) → Vals vs us → sp vs H Q E →
    codeAny (model P w) A (.call (.ref f) args) (CR (L2.CX P w) outer P w H s Q E) s
theorem FnG.mono {P : Program} {w : World} {K : PySem.W.Frag} {mg : Str → Option Value} {base : Heap} {j k : Nat} {f : Addr} {fd : FuncData} {ps : List Str} {sp : Sp} (F : FnG P w K mg base j f fd ps sp) (h : j ≤ k) : FnG P w K mg base k f fd ps sp :=
  ⟨F.len, fun A outer s H args us vs Q E hg hr => F.run A outer s H args us vs Q E hg (hr.mono h)⟩
/-- the def at p of the text keeps its mirror; its code object is known -/
theorem fnG_ok {P : Program} {w : World} {K : PySem.W.Frag} {mg : Str → Option Value} {base : Heap} {g : Gx} {x qual : Str} {params : Arguments} {body : List Stmt} {scope : Scope} {dvs : List V} {kws : List (Str × V)} {p : Str × Option Str} {fd : FuncData} {N ps : List Str} {k n np : Nat} {m : MS}
    (F : FunD K x qual params body scope dvs kws (He.fAd K p) fd) (S : FnScope N ps scope) (hn : N.length = n) (hp : ps.length = np)
    (hb : ∀ (A : Around) (outer : List Env) (s : Shared) (H : Hp) (E : XK), A.guards = some [] → Room k (A.deeper (envOfC qual scope s.heap.objs.size (He.fAd K p) (.ref (He.codeOf K p)))) →
      RSs (cxOf (L2.CX P w) P w K mg base N qual scope (He.fAd K p) (.ref (He.codeOf K p)) A outer s H E) g (WK E) body m) :
    FnG P w K mg base (k + 1) (He.fAd K p) fd ps (spM K g (fnM n np m)) := by
  have hle : np ≤ n := by
    have := S.pre
    rw [← hn, ← hp, ← this, List.length_take]
    omega
  have lenx : ∀ {w H Q} {W : WX} {xs : List VV} {h : VH}, Post K g (relV K g) w H [] Q W (fnM n np m xs h) → xs.length = np := fun {w H Q W xs h} p => by
    unfold fnM at p
    split at p
    · assumption
    · exact p.elim
  obtain ⟨oc, od, dV, kV, doc, pm, an, cdv, ct, osl, efd, lk, hcd, _, _⟩ := F.ex
  subst efd
  obtain ⟨c, rfl⟩ := He.codeIn_ref hcd
  have ec : He.codeOf K p = c := He.codeOf_eq lk rfl
  rw [ec] at hb
  refine ⟨fun vs H Q E ⟨w1, h, xs, k1, r, p⟩ => by rw [← r.length, hp]; exact lenx p, fun A outer s H args us vs Q E hgd hr e0 b rv ⟨w1, h, xs, k1, r, p⟩ => ?_⟩
  have hl := lenx p
  refine LamX.run_ofS lk hcd S hr e0 b rv (by rw [← r.length, hl, hp]) fun hr2 => ⟨_, hb A outer s H E hgd hr2, ?_⟩
  refine ⟨w1.in n, startS n np xs, h, RF.start hn hl hle r, k1.in, ?_⟩
  unfold fnM at p
  rw [if_pos hl] at p
  split at p
  · rename_i sl1 h1 e
    rw [e]
    exact fun w' H' σ' e1 k2 f1 => p (w'.back w1) H' .non (back_ext e1) (k1.back e1 k2) (by simp only [relV, RV])
  · rename_i v h1 e
    rw [e]
    exact fun w' H' y e1 k2 r1 => p (w'.back w1) H' y (back_ext e1) (k1.back e1 k2) (RV.mono (back_sees e1.P) _ _ r1)
  · rename_i ex sl1 h1 e
    rw [e]
    exact fun w' H' σ' cls d e1 k2 f1 r1 => p (w'.back w1) H' cls d (back_ext e1) (k1.back e1 k2) (r1.back e1.P)
  · exact p.elim
/-- such a def, under what TB tells of the ground -/
def OkG (P : Program) (w : World) (K : PySem.W.Frag) (mg : Str → Option Value) (g : Gx) (TB : Heap → Prop) (k : Nat) (f : Addr) (ps : List Str) (mf : MF) : Prop :=
  ∃ fd, (∀ base : Heap, TB base → FnG P w K mg base k f fd ps (spM K g mf)) ∧ Binds K fd ps [] ∧ PySem.W.keepIn K (.ref f) = true ∧ ∀ (s : Shared) (us : List Value), us.length = ps.length → BindsTo s fd ⟨us, []⟩ (ps.zip us)
section
variable {X : Cx} {g : Gx} {W : WX} {e : Expr} {es : List Expr} {t : TA} {ma : MA} {p pos : Pos} {x : Str} {i j k : Nat} {f : Addr} {fd : FuncData} {ps : List Str} {sp : Sp} {mf : MF} {TB : Heap → Prop}
theorem pe_callG (F : FnG X.prog X.w X.K X.mg X.base k f fd ps sp) (hgd : X.A.guards = some []) (hr : Room k X.A) (hg : Gl X x) (hm : X.mg x = some (.ref f)) (hk : PySem.W.keepIn X.K (.ref f) = true) (hb : Binds X.K fd ps []) (tk : Takes X W)
    (ha : PA X (e :: es) t) (hdb : (x == ("__debug__" : Str)) = false := by decide) (he : starEach (e :: es) X.env = (false, eval e X.env) :: starEach es X.env := by rfl) (hpl : (backTo pos (starEach es X.env)).any (·.1) = false := by rfl) :
    PE X (.Call (.Name x p) (e :: es) [] pos) (tCallS sp (WE W) t) := by
  refine ⟨fun pins s σ H Q I h => wpAny_Call_Name_kw (ld_glob I hg hm (PySem.W.callWith_K (h₀ := X.base) I.ok.mod.kin hk (thn (ha.run pos pins s σ H _ I h) fun us s1 ⟨vs, H1, I1, r, q⟩ => ⟨I1.kIn, ?_⟩) he hpl) hdb)⟩
  have hl : us.length = ps.length := by rw [← r.length]; exact F.len _ _ _ _ q
  have b := hb s1 us I1.kIn (by rw [List.append_nil]; exact hl)
  rw [List.append_nil] at b
  refine wpAny_call (codeAny_mono (F.run X.A X.stack s1 H1 ⟨us, []⟩ us vs Q (WE W σ) hgd hr I1.env0 b r q) fun r2 s2 hq => ?_)
  cases r2 with
  | error e => exact passAt tk σ pins H1 s1 e s2 I1 hq
  | ok fl =>
    cases fl with
    | ret u => exact I1.after hq
    | _ => exact False.elim hq
theorem callF_imp {E : L2.St → XK} (hE : E = WE W) {σ : L2.St} {H : Hp} {Q : VK} (tt : tG X.K g (relV X.K g) (callF mf ma) W σ H Q) : tCallS (spM X.K g mf) E (tG X.K g (relVs X.K g) ma W) σ H Q := by
  subst hE
  obtain ⟨w, sv, h, rs, hk, pp⟩ := tt
  refine seqG' rs hk pp fun w1 H1 h1 vs y e1 rs1 k1 r1 p1 => ?_
  refine ⟨w1, h1, vs, k1, r1, ?_⟩
  cases q : mf vs h1 with
  | ok v h2 => rw [q] at p1; exact p1
  | exc x h2 => rw [q] at p1; exact p1
  | bad => rw [q] at p1; exact p1
theorem re_callG (F : OkG X.prog X.w X.K X.mg g TB j f ps mf) (tb : TB X.base) (hgd : X.A.guards = some []) (hr : Room k X.A) (hm : X.mg x = some (.ref f)) (tk : Takes X W) (ha : RA X g W (e :: es) ma) (hj : j ≤ k := by omega) (hg : Gl X x := by rfl)
    (hdb : (x == ("__debug__" : Str)) = false := by decide) (he : starEach (e :: es) X.env = (false, eval e X.env) :: starEach es X.env := by rfl) (hpl : (backTo pos (starEach es X.env)).any (·.1) = false := by rfl) :
    RE X g W (.Call (.Name x p) (e :: es) [] pos) (callF mf ma) := by
  obtain ⟨fd, F, B, kp, _⟩ := F
  exact pe_imp (pe_callG (((F X.base tb).mono hj)) hgd hr hg hm kp B tk ha hdb he hpl) fun σ H Q tt => callF_imp rfl tt

/-! ### a name that holds a def -/
def callVM (tab : List (Nat × MF)) (i : Nat) (a : MA) : ME := fun sv h => match sv[i]? with
  | some (some (.adr n)) => (match tab.lookup n with
    | some mf => (a sv h).bind fun vs h1 => mf vs h1
    | none => .bad)
  | _ => .bad
/-- what is known of the defs that it may be -/
def TabV (P : Program) (w : World) (K : PySem.W.Frag) (mg : Str → Option Value) (g : Gx) (k : Nat) (tab : List (Nat × MF)) : Prop := ∀ n mf, tab.lookup n = some mf → ∃ ps, OkF P w K mg g k (g.adr n) ps mf
theorem tabV_nil {P : Program} {w : World} {K : PySem.W.Frag} {mg : Str → Option Value} {k : Nat} : TabV P w K mg g k [] := fun n mf e => by cases e
theorem tabV_cons {P : Program} {w : World} {K : PySem.W.Frag} {mg : Str → Option Value} {j k n : Nat} {mf : MF} {tab : List (Nat × MF)} {f : Addr} {ps : List Str} (F : OkF P w K mg g j f ps mf) (r : TabV P w K mg g k tab) (hf : f = g.adr n := by rfl) (hj : j ≤ k := by omega) : TabV P w K mg g k ((n, mf) :: tab) := fun n2 mf2 e => by
  subst hf
  rw [List.lookup_cons] at e
  split at e
  · rename_i q
    cases e
    have : n2 = n := by simpa using q
    subst this
    obtain ⟨fd, F, B, kp, b⟩ := F
    exact ⟨ps, fd, fun base => (F base).mono hj, B, kp, b⟩
  · exact r n2 mf2 e
theorem re_callV {tab : List (Nat × MF)} (T : TabV X.prog X.w X.K X.mg g j tab) (hr : Room k X.A) (tk : Takes X W) (i : Nat) (ha : RA X g W (e :: es) ma) (hN : X.N[i]? = some x := by rfl) (hv : Vis X.env.scope x := by first | exact Or.inl rfl | exact Or.inr (Or.inl rfl) | exact Or.inr (Or.inr rfl)) (hj : j ≤ k := by omega)
    (hd : (x == ("__debug__" : Str)) = false := by decide) (hcd : (x == ("__classdict__" : Str)) = false := by decide) (he : starEach (e :: es) X.env = (false, eval e X.env) :: starEach es X.env := by rfl) (hpl : (backTo pos (starEach es X.env)).any (·.1) = false := by rfl) :
    RE X g W (.Call (.Name x p) (e :: es) [] pos) (callVM tab i ma) := by
  refine ⟨fun pins s σ H Q I tt => ?_⟩
  obtain ⟨w, sv, h, rs, hk, pp⟩ := tt
  unfold callVM at pp
  split at pp
  · rename_i n en
    split at pp
    · rename_i mf emf
      obtain ⟨ps, fd, F, B, kp, _⟩ := T n mf emf
      obtain ⟨y, ey, ry⟩ := rs.get i _ en
      simp only [RV] at ry
      subst ry
      have hc := callF_imp (E := WE W) (mf := mf) (X := X) (g := g) rfl ⟨w, sv, h, rs, hk, pp⟩
      refine wpAny_Call_Name_kw (thn ((pe_var (pos := p) hN hv hd hcd).run pins s σ H (fun v H1 => v = .ref (g.adr n) ∧ H1 = H) I ⟨_, ey, rfl, rfl⟩) fun u s1 ⟨v, H1, I1, r1, q1⟩ => ?_)
      obtain ⟨rfl, rfl⟩ := q1
      cases r1
      exact PySem.W.callWith_K (h₀ := X.base) I.ok.mod.kin kp (thn (ha.run pos pins s1 σ _ _ I1 hc) fun us s2 ⟨vs, H2, I2, r, q⟩ => ⟨I2.kIn, run_fnS (E := WE W) ((F X.base).mono hj) hr B (passAt tk σ) I2 r q⟩) he hpl
    · exact pp.elim
  · exact pp.elim
end
end Mv
set_option Elab.async false
set_option linter.all false
set_option maxRecDepth 100000
/-! Mv, part X: own errors whose __init__ says super().__init__(f); self.f = f. -/
namespace Mv
open PySem PySem.W PySem.Calls PySem.Spec PyProof.Rows

/-! ### the text of such an __init__ -/
def iArg (f : Str) (p1 p2 : Pos) : Arguments := { posonlyargs := [], args := [{ arg := "self", annotation := none, pos := p1 }, { arg := f, annotation := none, pos := p2 }], vararg := none, kwonlyargs := [], kw_defaults := [], kwarg := none, defaults := [] }
def iBody (f : Str) (q : Nat → Pos) : List Stmt := [.Expr (.Call (.Attribute (.Call (.Name "super" (q 0)) [] [] (q 1)) "__init__" (q 2)) [.Name f (q 3)] [] (q 4)) (q 5), .Assign [.Attribute (.Name "self" (q 6)) f (q 7)] (.Name f (q 8)) (q 9)]
def iSc (f : Str) : Scope := { kind := .function, names := [("self", .local), (f, .local), ("__class__", .free), ("super", .globalImplicit)], isGenerator := false, isCoroutine := false, more := [] }
def isArg (f : Str) : Arguments → Bool
  | ⟨[], [⟨a, none, _⟩, ⟨b, none, _⟩], none, [], [], none, []⟩ => decide (a = "self") && decide (b = f)
  | _ => false
theorem isArg_ok {f : Str} {a : Arguments} (h : isArg f a = true) : ∃ p1 p2, a = iArg f p1 p2 := by
  unfold isArg at h
  split at h
  · simp only [Bool.and_eq_true, decide_eq_true_eq] at h
    obtain ⟨rfl, rfl⟩ := h
    exact ⟨_, _, rfl⟩
  · cases h
def isBody (f : Str) (q : Nat → Pos) : FuncBody → Bool
  | .stmts [.Expr (.Call (.Attribute (.Call (.Name a q0) [] [] q1) b q2) [.Name c q3] [] q4) q5, .Assign [.Attribute (.Name d q6) e q7] (.Name g q8) q9] => decide (a = "super") && (decide (b = "__init__") && (decide (c = f) && (decide (d = "self") && (decide (e = f) && (decide (g = f) &&
    decide ([q0, q1, q2, q3, q4, q5, q6, q7, q8, q9] = [q 0, q 1, q 2, q 3, q 4, q 5, q 6, q 7, q 8, q 9]))))))
  | _ => false
theorem isBody_ok {f : Str} {q : Nat → Pos} {b : FuncBody} (h : isBody f q b = true) : b = .stmts (iBody f q) := by
  unfold isBody at h
  split at h
  · rename_i a q0 q1 b q2 c q3 q4 q5 d q6 e q7 g q8 q9
    simp only [Bool.and_eq_true, decide_eq_true_eq] at h
    obtain ⟨rfl, rfl, rfl, rfl, rfl, rfl, h⟩ := h
    simp only [List.cons.injEq] at h
    obtain ⟨rfl, rfl, rfl, rfl, rfl, rfl, rfl, rfl, rfl, rfl, _⟩ := h
    rfl
  · cases h
/-- a field's name that is no other name of that def -/
structure FldOk (f : Str) : Prop where
  ne : f ≠ "self"
  own : (iSc f).names.lookup f = some .local
  sup : (iSc f).names.lookup ("super" : Str) = some .globalImplicit
  cls : (iSc f).names.lookup ("__class__" : Str) = some .free
  dbg : (f == ("__debug__" : Str)) = false
/-- what the head tells of such a class, at C -/
structure NumX (prog : Program) (K : Frag) (C : Addr) (f : Str) (q : Nat → Pos) : Prop where
  fI : ∃ fA cc cda : Addr, ∃ (oc : Value) (od : Option Addr) (doc pm : Value) (an : Option Addr) (ct : Value) (osl : Array (Option Value)) (qual : Str) (p1 p2 : Pos),
    K.lookup fA = some ⟨oc, od, .func (ksFn "__init__" qual (iArg f p1 p2) (iBody f q) (iSc f) .none .none doc pm an (.ref cda) ct cc), osl⟩ ∧ codeIn K (.ref cda) qual = true ∧ findIn K (.ref C) "__init__" = some (some (.ref fA)) ∧ typeIn K (.ref fA) = some (.type "function") ∧
    (∃ ol odl oll, K.lookup cc = some ⟨ol, odl, .cell (some (.ref C)), oll⟩) ∧ ∃ (vs : Array Value) (file : Str) (tf : Tok) (ccl : Value) (cdd : Option Addr) (ccs : Array (Option Value)), K.lookup cda = some ⟨ccl, cdd, .fields vs, ccs⟩ ∧ vs[2]? = some (.str file tf) ∧ ((prog.main.file : Str) == file) = true
  xi : excInitIn K C PySem.HandSPX.veTail "ValueError.__new__" = true
  cd : ∃ cd, clsIn K C = some cd ∧ PySem.HandSPX.refsVE cd.mro = true ∧ cd.hasDict = true
  sa : findIn K (.ref C) "__setattr__" = some (some (.builtin "object.__setattr__"))
  no : findIn K (.ref C) f = some none
  sp : ks_superIn K C C "__init__" = some (some (.builtin "ValueError.__init__"))
  sv : subIn K (.ref C) (.type "ValueError") = some true
  sc : mroIn K C (.ref C) = some true
  tp : nsIn K cStatics "thirdparty.any" = some none
  kp : keepIn K (.ref C) = true
  sb : subIn K (.ref C) (.type "BaseException") = some true
  ty : typeIn K (.ref C) = some (.type "type")
/-- a made error of such a class -/
structure NumMade (h h' : Heap) (e C d : Addr) (f : Str) (v : Value) : Prop where
  keep : ∀ b o, h.get? b = some o → h'.get? b = some o
  new : h.objs.size ≤ e
  obj : ∃ oe vs, h'.get? e = some oe ∧ oe.cls = .ref C ∧ oe.dict = some d ∧ oe.data = .fields vs ∧ vs[1]? = some .none
  dbig : h.objs.size ≤ d
  dne : d ≠ e
  ns : h'.Ns1 d (fun y => if y = f then some v else none)
section
variable {prog : Program} {w : World} {A : Around} {R : Result → Shared → Prop} {s : Shared} {K : Frag} {mg mb : Str → Option Value} {C : Addr} {f : Str}
/-- __init__ run on a fresh error at x; h0: the heap ahead of it -/
theorem num_init {q : Nat → Pos} {pl : Sem Bool} (T : NumX prog K C f q) (he : ∀ env : Env, eval (.Call (.Attribute (.Call (.Name "super" (q 0)) [] [] (q 1)) "__init__" (q 2)) [.Name f (q 3)] [] (q 4)) env = (do
      let ov ← attributeBase (.Call (.Name "super" (q 0)) [] [] (q 1)) "__init__" env (eval (.Call (.Name "super" (q 0)) [] [] (q 1)) env)
      standAt (q 2).atName
      let (g, first) ← holding [ov] (getMethod ov "__init__" pl)
      callWith (q 4) g first (backTo (q 4) (starEach [.Name f (q 3)] env)) []))
     (fo : FldOk f) (ft : (prog.main.scope.names.lookup ("super" : Str)).isSome = false) (ms : mg "super" = none)
    (bd : ∀ (qual : Str) (p1 p2 : Pos) (doc pm : Value) (an : Option Addr) (cd ct : Value) (cc x : Addr) (v : Value), bindArgs (ksFn "__init__" qual (iArg f p1 p2) (iBody f q) (iSc f) .none .none doc pm an cd ct cc) ⟨[.ref x, v], []⟩ = pure [(("self" : Str), Value.ref x), (f, v)])
    {h0 : Heap} {x t0 : Addr} {v : Value} (X0 : K.In h0) (hg : h0.Ns mainGlobals mg)
    (hb : h0.Ns builtinsNs mb) (hbb : ∀ x : Str, x ≠ "__name__" → mb x = bootBuiltins x) (k0 : ∀ b o, h0.get? b = some o → s.heap.get? b = some o) (hz : h0.objs.size ≤ s.heap.objs.size) (hlim : s.heap.NoLimit) (nx : h0.get? x = none)
    (hx : s.heap.get? x = some (excObj C t0 none .none)) (room : A.depth < recursionLimit) {fA : Addr} (ef : findIn K (.ref C) "__init__" = some (some (.ref fA)))
    (hq : ∀ h' tk dx t1, (∀ b o, h0.get? b = some o → h'.get? b = some o) → h'.get? x = some { cls := .ref C, dict := some dx, data := .fields #[.ref t1, .none, .none, .none, .bool false, .none] } → h0.objs.size ≤ dx → dx ≠ x → h'.Ns1 dx (fun y => if y = f then some v else none) →
      R (.ok (.ret .none)) { s with heap := h', toks := tk }) :
    codeAny (model prog w) A (.call (.ref fA) ⟨[.ref x, v], []⟩) R s := by
  obtain ⟨fA', cc, cda, oc, od, doc, pm, an, ct, osl, qual, p1, p2, lf, cdI, ei, ti, ⟨ol, odl, oll, lcc⟩, vs, file, tf, ccl, cdd, ccs, lcd, v2, vf⟩ := T.fI
  rw [ei] at ef
  cases ef
  obtain ⟨cdC, hcd, hm, hdict⟩ := T.cd
  have Xs : K.In s.heap := X0.keeps k0
  refine ks_codeAny_call_defAt (fd := ksFn "__init__" qual (iArg f p1 p2) (iBody f q) (iSc f) .none .none doc pm an (.ref cda) ct cc) (body := iBody f q) (binds := [(("self" : Str), .ref x), (f, v)]) room (Xs _ _ lf) rfl hlim (codeRec_of Xs cdI) rfl
    (BindsTo.of_eq (bd _ _ _ _ _ _ _ _ _ _ _)) ?_ ?_ (fun g1 ns1 k1 => ?_)
  · intro y hy
    simp only [iSc, List.mem_cons, List.not_mem_nil, or_false] at hy
    rcases hy with rfl | rfl | rfl | rfl <;> simp
  · intro y hy
    simp only [List.mem_cons, List.not_mem_nil, or_false] at hy
    rcases hy with rfl | rfl
    · rfl
    · exact fo.own
  · have mf : ([(("self" : Str), .ref x), (f, v)] : List (Str × Value)).reverse.lookup f = some v := by simp [List.lookup]
    have mself : ([(("self" : Str), .ref x), (f, v)] : List (Str × Value)).reverse.lookup (("self" : Str)) = some (Value.ref x) := by
      have sf2 : (("self" : Str) == f) = false := by simpa using fun e => fo.ne e.symm
      simp [List.lookup, sf2]
    have F1 : Fr h0 s.heap.objs.size g1 (fun y => ([(("self" : Str), .ref x), (f, v)] : List (Str × Value)).reverse.lookup y) := ⟨ns1, fun b o e => k1 b o (k0 b o e), hz⟩
    have xL : x ≠ s.heap.objs.size := Nat.ne_of_lt (Heap.lt_size hx)
    have N1 : News h0 s.heap.objs.size g1 [(x, excObj C t0 none .none)] := fun p hp => by
      simp only [List.mem_cons, List.not_mem_nil, or_false] at hp
      subst hp
      exact ⟨k1 _ _ hx, xL, nx⟩
    have X1 : K.In g1 := X0.keeps F1.keep
    have I1 : InstAt g1 x (excObj C t0 none .none) C none := ⟨k1 _ _ hx, rfl, rfl, trivial⟩
    obtain ⟨oD, D1, D2⟩ : ∃ oD, g1.get? C = some oD ∧ oD.data = .cls cdC := by
      unfold clsIn at hcd
      split at hcd
      · rename_i c d cd' sl ho
        cases hcd
        exact ⟨_, X1 _ _ ho, rfl⟩
      · cases hcd
    let env : Env := ksEnv qual (iSc f) s.heap.objs.size fA (.ref cda) cc
    refine ks_wpAt_execs_cons (ks_wpAt_Expr_any (ks_wpAt_MethodCall (pl := pl) (ks_wpAt_super_base (env := env) (ar := { arg := "self", annotation := none, pos := p1 }) fo.sup fo.cls rfl rfl (X1 _ _ lf) rfl rfl rfl (X1 _ _ lcd) rfl v2 vf ft ?_) (he _)))
    refine ks_loadName_global rfl fo.sup (loadGlobal_builtin (env := env) (hg.keeps F1.keep) ms (hb.keeps F1.keep) ((hbb _ (by decide +kernel)).trans (show bootBuiltins "super" = some (.type "super") by decide +kernel)) ⟨rfl, ?_⟩)
    refine wpAny_loadName_free rfl fo.cls rfl ⟨_, X1 _ _ lcc, rfl⟩ (wpAny_loadName_local rfl rfl F1.ns mself (ks_wpAny_isType_cls D1 D2 ⟨rfl, ?_⟩))
    refine ks_wpAny_call_super D1 D2 I1.at_ I1.cls (fun c e => by cases e) (looks_mroIn X1 T.sc) (fun g2 e2 k2 => ?_)
    obtain ⟨F2, N2, l2⟩ := ks_newsPush (s := ⟨g1, s.gens, s.drawn, s.toks + 2, s.os⟩) (o := ks_superObj C x C) F1 N1 rfl e2 k2
    have I2 : InstAt g2 x (excObj C t0 none .none) C none := ⟨k2 _ _ I1.at_, rfl, rfl, trivial⟩
    refine kxs_method (i := "ValueError.__init__") (B := "ValueError") (so := g1.objs.size) kxs_ValueError F2 X0 N2 (by simp) I2 T.tp T.sp T.sv rfl (fun q3 g3 F3 N3 l3 => ?_)
    have nq : q3 ≠ x := fun e => absurd (l3 (x, excObj C t0 none .none) (by simp)) (by rw [e]; exact Nat.lt_irrefl _)
    have nso : g1.objs.size ≠ x := fun e => absurd (l2 (x, excObj C t0 none .none) (by simp)) (by rw [e]; exact Nat.lt_irrefl _)
    refine kxs_callWith1 (i := "ValueError.__init__") (x := x) (u := q3) N3 (by simp) ?_ (by rfl) (by rfl)
    show wpAny _ _ (spliced ((false, eval (.Name f (q 3)) env) :: backTo (q 4) (starEach [] env))) _ _ _
    refine Calls.spliced_cons (wpAny_Name (wpAny_loadName_local rfl fo.own F3.ns mf (Calls.spliced_nil ⟨kxs_at N3 (by simp), ?_⟩)) fo.dbg)
    refine kxs_call (t := t0) (dv := none) (c2 := .none) F3 X0 N3 PySem.F.excBase_ValueError T.xi (by simp) (.tail nq (.tail nso (.head (by simp)))) (by rw [sizeLine_eq]; simp) (fun t1 g4 F4 N4 l4 => ?_)
    have X4 : K.In g4 := X0.keeps F4.keep
    have at4 : g4.get? x = some (excObj C t1 none .none) := (N4 (x, excObj C t1 none .none) (by simp)).1
    refine ks_wpAt_execs_cons (wpAt_of_wpAny (plainObj_wpAny_Assign_Attribute (wpAny_Name (wpAny_loadName_local rfl fo.own F4.ns mf (wpAny_Name (wpAny_loadName_local rfl rfl F4.ns mself ?_) rfl)) fo.dbg) ?_))
    · refine set_plain X4 (ox := excObj C t1 none .none) (od := none) ⟨at4, rfl, rfl, trivial⟩ T.sa ?_
      refine PySem.HandSPX.exc_osa X4 at4 hcd hm hdict T.no (fun g5 k5 dx keep5 dn dne at5 ns5 => ?_)
      refine wpAt_of_wpAny (wpAny_execs_nil ?_)
      have big : s.heap.objs.size < g4.objs.size := F4.ns.lt
      exact hq g5 k5 dx t1 (fun b o e => keep5 b o (fun z => by rw [z, nx] at e; cases e) (F4.keep b o e)) at5 (Nat.le_trans hz (Nat.le_trans (Nat.le_of_lt big) dn)) dne ns5
    · rfl
end
end Mv
set_option Elab.async false
set_option linter.all false
set_option maxRecDepth 100000
/-! Mv, part Y: raise X(e), X such a class. -/
namespace Mv
open PySem PySem.W PySem.Calls PySem.Spec PyProof.Rows
/-- how the call super().__init__(f) of that text goes -/
def CallsAs (f : Str) (q : Nat → Pos) (pl : Sem Bool) : Prop := ∀ env : Env, eval (.Call (.Attribute (.Call (.Name "super" (q 0)) [] [] (q 1)) "__init__" (q 2)) [.Name f (q 3)] [] (q 4)) env = (do
      let ov ← attributeBase (.Call (.Name "super" (q 0)) [] [] (q 1)) "__init__" env (eval (.Call (.Name "super" (q 0)) [] [] (q 1)) env)
      standAt (q 2).atName
      let (g, first) ← holding [ov] (getMethod ov "__init__" pl)
      callWith (q 4) g first (backTo (q 4) (starEach [.Name f (q 3)] env)) [])
def BindsAs (f : Str) (q : Nat → Pos) : Prop := ∀ (qual : Str) (p1 p2 : Pos) (doc pm : Value) (an : Option Addr) (cd ct : Value) (cc x : Addr) (v : Value), bindArgs (ksFn "__init__" qual (iArg f p1 p2) (iBody f q) (iSc f) .none .none doc pm an cd ct cc) ⟨[.ref x, v], []⟩ = pure [(("self" : Str), .ref x), (f, v)]
section
variable {prog : Program} {w : World} {A : Around} {R : Result → Shared → Prop} {s : Shared} {K : Frag} {mg mb : Str → Option Value} {C : Addr} {f : Str} {q : Nat → Pos} {pl : Sem Bool}
theorem num_made (T : NumX prog K C f q) (he : CallsAs f q pl) (fo : FldOk f) (ft : (prog.main.scope.names.lookup ("super" : Str)).isSome = false) (ms : mg "super" = none) (bd : BindsAs f q) {v : Value} (X : K.In s.heap) (hg : s.heap.Ns mainGlobals mg)
    (hb : s.heap.Ns builtinsNs mb) (hbb : ∀ x : Str, x ≠ "__name__" → mb x = bootBuiltins x) (hlim : s.heap.NoLimit) (room : A.depth + 1 < recursionLimit)
    (hq : ∀ h' tk e d, NumMade s.heap h' e C d f v → R (.ok (.ret (.ref e))) { s with heap := h', toks := tk }) : codeAny (model prog w) A (.call (.ref C) ⟨[v], []⟩) R s := by
  obtain ⟨fA, cc, cda, oc, od, doc, pm, an, ct, osl, qual, p1, p2, lf, cdI, ei, ti, lcc, lcd⟩ := T.fI
  obtain ⟨nm, N', qn, bs, bm, hdct, sn, sub, ab, col, dd, k0, k1, k2, k3, k5, hC, hT⟩ := excInit_of X T.xi
  obtain ⟨hp, g, dr, tk, os⟩ := s
  have old : ∀ b o, hp.get? b = some o → ((hp.push (kdv_tup [v])).push (PySem.HandSPX.excO C hp.objs.size)).get? b = some o := fun b o e => Heap.get?_push_of_some _ (Heap.get?_push_of_some _ e)
  have at_ : ((hp.push (kdv_tup [v])).push (PySem.HandSPX.excO C hp.objs.size)).get? (hp.objs.size + 1) = some (PySem.HandSPX.excO C hp.objs.size) := by heap_get
  have new : hp.get? (hp.objs.size + 1) = none := by
    cases e : hp.get? (hp.objs.size + 1) with
    | none => rfl
    | some o => exact absurd (Nat.lt_of_succ_lt (Heap.lt_size e)) (Nat.lt_irrefl _)
  have sz : hp.objs.size ≤ ((hp.push (kdv_tup [v])).push (PySem.HandSPX.excO C hp.objs.size)).objs.size := by
    rw [Heap.size_push, Heap.size_push]
    omega
  refine PySem.HandSPX.call_own PySem.F.excBase_ValueError hT hC (looks_findIn X ei) (fun self => bind_fn X self ti) (by rw [sizeLine_eq]; simp) ?_
  refine num_init (s := ⟨(hp.push (kdv_tup [v])).push (PySem.HandSPX.excO C hp.objs.size), g, dr, tk, os⟩) (h0 := hp) (t0 := hp.objs.size) T he fo ft ms bd X hg hb hbb old sz (hlim.keeps old) new at_ ?_ ei fun h' tk' dx t1 keep at2 big ne ns => ?_
  · show A.depth + 1 < recursionLimit
    exact room
  · exact ⟨rfl, hq h' tk' (hp.objs.size + 1) dx ⟨keep, Nat.le_succ _, ⟨_, _, at2, rfl, rfl, rfl, rfl⟩, big, ne, ns⟩⟩
end
end Mv
namespace Mv
open PySem PySem.Spec PyProof.Rows L2
theorem relO_fld {f : Str} {v : V} {u : Value} (r : RelV v u) (y : Str) : RelO (List.lookup y [(f, v)]) (if y = f then some u else none) := by
  by_cases e : y = f
  · subst e
    rw [if_pos rfl]
    have z : List.lookup y [(y, v)] = some v := by simp [List.lookup]
    rw [z]
    exact r
  · rw [if_neg e]
    have b : (y == f) = false := by simpa using e
    have z : List.lookup y [(f, v)] = none := by simp [List.lookup, b]
    rw [z]
    trivial
section
variable {X : Cx} {C : Addr} {f : Str} {q : Nat → Pos} {pl : Sem Bool}
def tMkN (C : Addr) (f : Str) (ta : TA) : L2.St → Hp → XK → Prop := fun σ H Q => ta σ H fun vs G => ∃ v, vs = [v] ∧ ∀ d, G d = none → Q (.ref C) (some d) (upd G d (.xd [(f, v)]))
theorem pmk_num {x : Str} {a : Expr} {ta : TA} {p pos : Pos} {k : Nat} (T : NumX X.prog X.K C f q) (he : CallsAs f q pl) (fo : FldOk f) (ft : (X.prog.main.scope.names.lookup ("super" : Str)).isSome = false) (ms : X.mg "super" = none) (bd : BindsAs f q) (hr : Room k X.A)
    (gC : X.mg x = some (.ref C)) (ha : PA X [a] ta) (hg : Gl X x := by rfl) (hdb : (x == ("__debug__" : Str)) = false := by decide)
    (hs : starEach (a :: []) X.env = (false, eval a X.env) :: starEach [] X.env := by rfl) (hpl : (backTo pos (starEach [] X.env)).any (·.1) = false := by rfl) : PMk X (.Call (.Name x p) [a] [] pos) (tMkN C f ta) := by
  intro pins s σ H Q J t
  refine wpAny_Call_Name_kw (ld_glob J hg gC (PySem.W.callWith_K (h₀ := X.base) J.ok.mod.kin T.kp (thn (ha.run pos pins s σ H _ J t) fun us s1 hh => ?_) hs hpl) hdb)
  obtain ⟨vs, G, J1, r1, v, rfl, q1⟩ := hh
  obtain ⟨u, rfl, ru⟩ := vals1 r1
  refine ⟨J1.kIn, ?_⟩
  show wpAny _ _ (call (.ref C) [u]) _ _ _
  obtain ⟨mb, b1, b2⟩ := J1.mod.blt
  have hlim := J1.nolimit
  have ns := J1.mod.glob.keeps J1.bk
  have nb := b1.keeps J1.bk
  have kin := J1.kIn
  obtain ⟨hp, g, dr, tk, os⟩ := s1
  refine wpAny_call (num_made T he fo ft ms bd kin ns nb b2 hlim (by have := hr.dp; omega) fun h' tk' e d M => ?_)
  show MkP X pins σ Q (.ref e) ⟨h', g, dr, tk', os⟩
  obtain ⟨oe, fv, ate, ec, ed, dat, i1⟩ := M.obj
  obtain ⟨Z, z1, z2⟩ := restrict h' fun b => decide (b ≠ e)
  have zk : ∀ b, b ≠ e → Z.get? b = h'.get? b := fun b hb => z1 b (decide_eq_true hb)
  have ze : Z.get? e = none := z2 e (by simp)
  have old : ∀ b o, hp.get? b = some o → Z.get? b = some o := fun b o w => (zk b (Nat.ne_of_lt (Nat.lt_of_lt_of_le (Heap.lt_size w) M.new))).trans (M.keep b o w)
  have ob : ObjOk X.prog X.w (upd G d (.xd [(f, v)])) Z d (.xd [(f, v)]) := ⟨_, M.ns.at (fun o w => (zk d M.dne).trans w), fun y => relO_fld ru y⟩
  have J2 : Inv X pins σ (upd G d (.xd [(f, v)])) ⟨Z, g, dr, tk', os⟩ := J1.laid (t' := tk') old M.dbig ob
  refine ⟨e, oe, fv, ⟨Z, g, dr, tk', os⟩, _, .ref C, some d, rfl, J2, fun b o w => ?_, ze, ate, ⟨ec, ed⟩, dat, i1, ?_, rfl, J1.bare, raises_own T.sb T.ty, q1 d (J1.hok.fresh M.dbig)⟩
  · by_cases hb : b = e
    · have w' : Z.get? b = some o := w
      rw [hb, ze] at w'
      cases w'
    · exact (zk b hb).symm.trans w
  · rw [upd_ne (Ne.symm M.dne)]
    exact J1.hok.fresh M.new
end
/-! ### raise X(e) -/
section
variable {X : Cx} {g : Gx} {W : WX} {q : Nat → Pos}
def raiseV (c : Nat) (a : MA) : MS := fun sl h => (a (view sl) h).toS sl fun vs h1 => match vs with
  | [v] => .exc ⟨c, some v⟩ sl h1
  | _ => .bad
theorem rs_raiseV {c : Nat} {x : Str} {a : Expr} {m : MA} {p pos pos2 : Pos} {k : Nat} (hc : X.calm = true) (tk : Takes X W) (T : NumX X.prog X.K (g.adr c) (g.fld c) q) (he : ∃ pl, CallsAs (g.fld c) q pl) (fo : FldOk (g.fld c)) (ft : (X.prog.main.scope.names.lookup ("super" : Str)).isSome = false) (ms : X.mg "super" = none) (bd : BindsAs (g.fld c) q) (hr : Room k X.A)
    (gC : X.mg x = some (.ref (g.adr c))) (ha : RA X g W [a] m) (hg : Gl X x := by rfl) (hdb : (x == ("__debug__" : Str)) = false := by decide)
    (hs : starEach (a :: []) X.env = (false, eval a X.env) :: starEach [] X.env := by rfl) (hpl : (backTo pos (starEach [] X.env)).any (·.1) = false := by rfl) : RS X g W (.Raise (some (.Call (.Name x p) [a] [] pos)) none pos2) (raiseV c m) :=
  let ⟨_, he⟩ := he
  ps_imp (ps_raise hc tk (pmk_num T he fo ft ms bd hr gC ha hg hdb hs hpl)) fun D σ H ⟨w, sl, h, f, k, pp⟩ => by
    refine seqS f k pp fun w1 H1 h1 vs ys e1 f1 k1 r1 p1 => ?_
    split at p1
    · rename_i v
      simp only [relVs, RVs] at r1
      obtain ⟨y, r, rfl, r2, rfl⟩ := r1
      refine ⟨y, rfl, fun d hd => ?_⟩
      have ex : Ext w1 H1 w1 (upd H1 d (.xd [(g.fld c, y)])) := Ext.grow k1 hd
      refine p1 w1 _ σ _ (some d) ex.toS (Hk.grow k1 hd) (f1.mono ex) ⟨rfl, ?_⟩
      exact ⟨d, y, rfl, upd_same, k1.fresh hd, RV.mono ex.sees _ _ r2⟩
    · exact p1.elim
end
end Mv
set_option Elab.async false
set_option linter.all false
set_option maxRecDepth 100000
/-! Mv, part Z: what a head tells of error classes. -/
namespace Mv
open PySem PySem.W PySem.Spec PyProof.Rows L2
structure PgOk (P : Program) (file : Str) : Prop where
  file : ((P.main.file : Str) == file) = true
  sup : (P.main.scope.names.lookup ("super" : Str)).isSome = false
def cellB (K : Frag) (C : Addr) : List (Str × Addr) → Bool
  | [p] => decide (p.1 = "__class__") && (match K.lookup p.2 with
    | some ⟨_, _, .cell (some (.ref D)), _⟩ => decide (D = C)
    | _ => false)
  | _ => false
theorem cellB_ok {K : Frag} {C : Addr} {l : List (Str × Addr)} (h : cellB K C l = true) : ∃ cc, l = [(("__class__" : Str), cc)] ∧ ∃ ol odl oll, K.lookup cc = some ⟨ol, odl, .cell (some (.ref C)), oll⟩ := by
  unfold cellB at h
  split at h
  · rename_i p
    obtain ⟨y, cc⟩ := p
    simp only [Bool.and_eq_true, decide_eq_true_eq] at h
    obtain ⟨rfl, h⟩ := h
    split at h
    · rename_i D _ e
      have := of_decide_eq_true h
      subst this
      exact ⟨cc, rfl, _, _, _, e⟩
    · cases h
  · cases h
def fileB (file : Str) (K : Frag) (cda : Addr) : Bool := match K.lookup cda with
  | some ⟨_, _, .fields vs, _⟩ => (match (vs[2]? : Option Value) with
    | some (.str z _) => decide (file = z)
    | _ => false)
  | _ => false
theorem fileB_ok {P : Program} {file : Str} {K : Frag} {cda : Addr} (pg : PgOk P file) (h : fileB file K cda = true) :
    ∃ (vs : Array Value) (z : Str) (tf : Tok) (ccl : Value) (cdd : Option Addr) (ccs : Array (Option Value)), K.lookup cda = some ⟨ccl, cdd, .fields vs, ccs⟩ ∧ vs[2]? = some (.str z tf) ∧ ((P.main.file : Str) == z) = true := by
  unfold fileB at h
  split at h
  · rename_i vs _ e
    split at h
    · rename_i z t e2
      have := of_decide_eq_true h
      subst this
      exact ⟨vs, _, t, _, _, _, e, e2, pg.file⟩
    · cases h
  · cases h
def initB (file : Str) (K : Frag) (C : Addr) (f : Str) (q : Nat → Pos) : Bool := match K.lookup (He.ma K C "__init__") with
  | some ⟨_, _, .func ⟨n1, n2, n3, n4, n5, n6, n7, n8, n9, _, _, _, .ref cda, _, n15⟩, _⟩ => decide (n1 = "__init__") && (isArg f n3 && (isBody f q n4 && (decide (n5 = iSc f) && (decide (n6 = mainGlobals) && (cellB K C n7 && (decide (n8 = .none) && (decide (n9 = .none) && (decide (n15 = builtinsNs) && (codeIn K (.ref cda) n2 && fileB file K cda)))))))))
  | _ => false
def clsB (K : Frag) (C : Addr) : Bool := match clsIn K C with
  | some cd => PySem.HandSPX.refsVE cd.mro && cd.hasDict
  | none => false
/-- a class of errors with super().__init__(f); self.f = f -/
def numB (file : Str) (K : Frag) (C : Addr) (f : Str) (q : Nat → Pos) : Bool :=
  initB file K C f q && (decide (findIn K (.ref C) "__init__" = some (some (.ref (He.ma K C "__init__")))) && (decide (typeIn K (.ref (He.ma K C "__init__")) = some (.type "function")) && (excInitIn K C PySem.HandSPX.veTail "ValueError.__new__" && (clsB K C &&
  (decide (findIn K (.ref C) "__setattr__" = some (some (.builtin "object.__setattr__"))) && (decide (findIn K (.ref C) f = some none) && (decide (ks_superIn K C C "__init__" = some (some (.builtin "ValueError.__init__"))) && (decide (subIn K (.ref C) (.type "ValueError") = some true) &&
  (decide (mroIn K C (.ref C) = some true) && (decide (nsIn K cStatics "thirdparty.any" = some none) && (keepIn K (.ref C) && (decide (subIn K (.ref C) (.type "BaseException") = some true) && decide (typeIn K (.ref C) = some (.type "type"))))))))))))))
theorem numB_ok {P : Program} {file : Str} {K : Frag} {C : Addr} {f : Str} {q : Nat → Pos} (pg : PgOk P file) (h : numB file K C f q = true) : NumX P K C f q := by
  unfold numB at h
  simp only [Bool.and_eq_true, decide_eq_true_eq] at h
  obtain ⟨h1, h2, h3, h4, h5, h6, h7, h8, h9, h10, h11, h12, h13, h14⟩ := h
  refine ⟨?_, h4, ?_, h6, h7, h8, h9, h10, h11, h12, h13, h14⟩
  · unfold initB at h1
    split at h1
    · rename_i oc od n1 n2 n3 n4 n5 n6 n7 n8 n9 n10 n11 n12 cda n14 n15 osl e
      simp only [Bool.and_eq_true, decide_eq_true_eq] at h1
      obtain ⟨rfl, i2, i3, rfl, rfl, i6, rfl, rfl, rfl, i10, i11⟩ := h1
      obtain ⟨p1, p2, rfl⟩ := isArg_ok i2
      have i3 := isBody_ok i3
      subst i3
      obtain ⟨cc, rfl, cell⟩ := cellB_ok i6
      exact ⟨_, cc, cda, oc, od, n10, n11, n12, n14, osl, n2, p1, p2, e, i10, h2, h3, cell, fileB_ok pg i11⟩
    · cases h1
  · unfold clsB at h5
    split at h5
    · rename_i cd e
      obtain ⟨a, b⟩ := Bool.and_eq_true_iff.mp h5
      exact ⟨cd, e, a, b⟩
    · cases h5
theorem errC_ok {K : Frag} {x : Str} (c : (He.Fa.exc x).ok K = true) : ErrC K (He.ga K x) := by
  obtain ⟨a, b, d, e⟩ := He.exc_ok c
  exact ⟨a, b, d, e⟩
section
variable {fa : List He.Fa} {fn : List He.DefD} {ex : Frag → Bool} {K : Frag} {mg : Str → Option Value}
theorem Hy.err (y : Hy fa fn ex K mg) (i : Nat) {x : Str} (e : fa[i]? = some (.exc x) := by rfl) : ErrC K (He.ga K x) := errC_ok (y.c.fact i e)
theorem Hy.exm (y : Hy fa fn ex K mg) (i : Nat) {x z : Str} {b : Bool} (e : fa[i]? = some (.exm x z b) := by rfl) : exmOne K (.ref (He.ga K x)) (.ref (He.ga K z)) = some b := He.exm_ok (y.c.fact i e)
end
/-- who catches whom, by a table -/
def exmT (l : List (Nat × Nat × Bool)) (c c' : Nat) : Option Bool := match l with
  | [] => none
  | p :: r => if p.1 = c ∧ p.2.1 = c' then some p.2.2 else exmT r c c'
theorem exmT_ok {K : Frag} {g : Gx} : ∀ {l : List (Nat × Nat × Bool)}, (∀ p ∈ l, exmOne K (.ref (g.adr p.1)) (.ref (g.adr p.2.1)) = some p.2.2) → ExmOk K g (exmT l)
  | [], _, c, c', b, e => by cases e
  | p :: r, h, c, c', b, e => by
    unfold exmT at e
    split at e
    · rename_i z
      cases e
      rw [← z.1, ← z.2]
      exact h p (List.mem_cons_self ..)
    · exact exmT_ok (fun q hq => h q (List.mem_cons_of_mem _ hq)) c c' b e
def exmBs (K : Frag) (G : Nat → Addr) (l : List (Nat × Nat × Bool)) : Bool := l.all fun p => decide (exmOne K (.ref (G p.1)) (.ref (G p.2.1)) = some p.2.2)
theorem exmBs_ok {K : Frag} {g : Gx} {l : List (Nat × Nat × Bool)} (h : exmBs K g.adr l = true) : ExmOk K g (exmT l) := exmT_ok fun p hp => of_decide_eq_true (List.all_eq_true.mp h p hp)
end Mv
set_option Elab.async false
set_option linter.all false
set_option maxRecDepth 100000
/-! Mv, part AA: the end of a law whose defs make lambdas. -/
namespace Mv
open PySem PySem.Spec PyProof.Rows L2
abbrev tabO : Obj := { cls := .none, data := .fields #[] }
abbrev lsO (us : List Value) : Obj := { cls := .type "list", data := .seq us.toArray }
/-- what is tracked at the start: the empty tables, the script (if it is no part of K) -/
def H0 (ts : List Addr) (a : Addr) (o : Option HO) : Hp := fun b => if b ∈ ts then some (.tbl #[]) else if b = a then o else none
theorem H0_tab {ts : List Addr} {a b : Addr} {o : Option HO} (h : b ∈ ts) : H0 ts a o b = some (.tbl #[]) := if_pos h
theorem H0_a {ts : List Addr} {a : Addr} {o : Option HO} (h : a ∉ ts) : H0 ts a o a = o := by
  unfold H0
  rw [if_neg h, if_pos rfl]
theorem H0_no {ts : List Addr} {a b : Addr} {o : Option HO} (h : b ∉ ts) (n : b ≠ a) : H0 ts a o b = none := by
  unfold H0
  rw [if_neg h, if_neg n]
section
variable {P : Program} {w : World} {K : PySem.W.Frag} {mg mb : Str → Option Value} {k : Nat} {fa a : Addr} {cs : List (Addr × Addr)} {fd : FuncData} {x : Str} {sp : Sp} {s : Shared} {us : List Value} {ns : List Int}
theorem law_callG (KX : K.In s.heap) (nm : s.heap.Ns mainGlobals mg) (nb : s.heap.Ns builtinsNs mb) (bb : ∀ x : Str, x ≠ "__name__" → mb x = bootBuiltins x) (lim : s.heap.NoLimit) (gn : s.gens = #[])
    (tE : ∀ p ∈ cs, s.heap.get? p.2 = some tabO) (tK : ∀ p ∈ cs, K.lookup p.2 = none) (tC : ∀ p ∈ cs, PySem.W.CodeHd s.heap p.1 p.2)
    (bmn : ∃ (bm : Addr) (ob : Obj), mg "__builtins__" = some (.ref bm) ∧ bm ≠ builtinsNs ∧ s.heap.get? bm = some ob ∧ ob.cls = .type "module" ∧ ob.dict = some builtinsNs ∧ ob.data = .plain)
    (la : s.heap.get? a = some (lsO us)) (hi : IntsAre us ns) (hl : ns.length ≤ sizeLine) (hr : Room k callerA) (F : ∀ base : Heap, (∀ p ∈ cs, LamX.TabB base mg p.1 p.2) → FnG P w K mg base k fa fd [x] sp) (bd : ∀ (s : Shared) (u : Value), BindsTo s fd ⟨[u], []⟩ [(x, u)])
    (hsp : ∀ (o : Option HO), (K.lookup a ≠ none → o = none) → (o = none ∨ ∃ ob u, o = some (.frz ob u)) → a ∉ cs.map (·.2) → SqL K (H0 (cs.map (·.2)) a o) a (ns.map V.int) → sp [.ref a] (H0 (cs.map (·.2)) a o) (fun v _ => v = .bl true) fun _ _ _ => False) :
    codeAny (model P w) callerA (.call (.ref fa) ⟨[.ref a], []⟩) (fun r u => r = .ok (.ret (.bool true)) ∧ OldK s.heap u.heap ∧ u.os = s.os ∧ AllBare u.gens) s := by
  have vi := vals_ints hi
  have ln := hi.length
  have tb : ∀ b ∈ cs.map (·.2), s.heap.get? b = some tabO := fun b hb => by
    obtain ⟨p, hp, e⟩ := List.mem_map.mp hb
    rw [← e]
    exact tE p hp
  have nt : a ∉ cs.map (·.2) := fun z => by
    have e := tb a z
    rw [la] at e
    have z2 : Data.seq us.toArray _ = Data.fields #[] := congrArg Obj.data (Option.some.inj e)
    cases z2
  have inT : ∀ p ∈ cs, p.2 ∈ cs.map (·.2) := fun p hp => List.mem_map.mpr ⟨p, hp, rfl⟩
  obtain ⟨o, ok1, ok2, sq, hok⟩ : ∃ o : Option HO, (K.lookup a ≠ none → o = none) ∧ (o = none ∨ ∃ ob u, o = some (.frz ob u)) ∧ SqL K (H0 (cs.map (·.2)) a o) a (ns.map V.int) ∧ HOk P w (H0 (cs.map (·.2)) a o) s.heap := by
    cases kl : K.lookup a with
    | some oa =>
      have e := KX a oa kl
      rw [la] at e
      cases e
      refine ⟨none, fun _ => rfl, .inl rfl, .inr ⟨_, us.toArray, _, kl, rfl, rfl, rfl, by rw [List.size_toArray, ln]; exact hl, by simpa using vi⟩, fun b u z => ?_⟩
      by_cases hb : b ∈ cs.map (·.2)
      · rw [H0_tab hb] at z
        cases z
        exact tb b hb
      · by_cases ha : b = a
        · subst ha
          rw [H0_a nt] at z
          cases z
        · rw [H0_no hb ha] at z
          cases z
    | none =>
      refine ⟨some (.frz (lsO us) (.lst (ns.map V.int))), fun z => (z rfl).elim, .inr ⟨_, _, rfl⟩, .inl (.inr ⟨_, H0_a nt⟩), fun b u z => ?_⟩
      by_cases hb : b ∈ cs.map (·.2)
      · rw [H0_tab hb] at z
        cases z
        exact tb b hb
      · by_cases ha : b = a
        · subst ha
          rw [H0_a nt] at z
          cases z
          exact ⟨la, by rw [List.length_map]; exact hl, us, _, vi, la⟩
        · rw [H0_no hb ha] at z
          cases z
  generalize eH : H0 (cs.map (·.2)) a o = G at sq hok
  have gT : ∀ p ∈ cs, G p.2 = some (.tbl #[]) := fun p hp => by rw [← eH]; exact H0_tab (inT p hp)
  have gO : ∀ b, G b = none ∨ b ∈ cs.map (·.2) ∨ ∃ ob u, G b = some (.frz ob u) := fun b => by
    by_cases hb : b ∈ cs.map (·.2)
    · exact .inr (.inl hb)
    · by_cases ha : b = a
      · subst ha
        rw [← eH, H0_a nt]
        exact ok2.elim .inl fun z => .inr (.inr z)
      · exact .inl (by rw [← eH]; exact H0_no hb ha)
  have gN : ∀ {b : Addr} {ob : Obj}, s.heap.get? b = some ob → (∀ vs n, ob.data ≠ .seq vs n) → ob.data ≠ .fields #[] → G b = none := fun {b ob} e h1 h2 => by
    by_cases hb : b ∈ cs.map (·.2)
    · rw [tb b hb] at e
      cases e
      exact (h2 rfl).elim
    · by_cases ha : b = a
      · subst ha
        rw [la] at e
        cases e
        exact (h1 _ _ rfl).elim
      · rw [← eH]
        exact H0_no hb ha
  have gD : ∀ {b : Addr} {ob : Obj} {es : Array DictEntry} {ep : Nat}, s.heap.get? b = some ob → ob.data = .dict es ep → G b = none := fun e d => gN e (fun vs n z => by rw [d] at z; cases z) fun z => by rw [d] at z; cases z
  have bas : ∀ {b : Addr} {ob : Obj}, s.heap.get? b = some ob → G b = none → (hidT s.heap G).get? b = some ob := fun e n => hidT_get e n
  have nsB : ∀ {b : Addr} {m : Str → Option Value}, s.heap.Ns b m → (hidT s.heap G).Ns b m := fun ⟨ob, es, ep, e, d, r⟩ => ⟨ob, es, ep, bas e (gD e d), d, r⟩
  have kB : K.In (hidT s.heap G) := fun b ob e => bas (KX b ob e) (by
    by_cases hb : b ∈ cs.map (·.2)
    · obtain ⟨p, hp, ep⟩ := List.mem_map.mp hb
      rw [← ep, tK p hp] at e
      cases e
    · by_cases ha : b = a
      · subst ha
        rw [← eH, H0_a nt]
        exact ok1 (by rw [e]; simp)
      · rw [← eH]
        exact H0_no hb ha)
  have md : L2.Mod K mg (hidT s.heap G) := ⟨kB, nsB nm, ⟨mb, nsB nb, bb⟩, by obtain ⟨mc, h1, h2⟩ := lim; exact ⟨mc, nsB h1, h2⟩⟩
  have TB : ∀ p ∈ cs, LamX.TabB (hidT s.heap G) mg p.1 p.2 := fun p hp => by
    have ep := tE p hp
    constructor
    · obtain ⟨ob, vs, file, tf, fl, tg, inF, tx, tt, e1, r1, r2, r3, rest⟩ := tC p hp
      refine ⟨ob, vs, file, tf, fl, tg, inF, tx, tt, bas e1 (gN e1 (fun vs n z => ?_) fun z => ?_), r1, r2, r3, rest⟩
      · rw [r2] at z
        cases z
      · rw [r2] at z
        cases z
        simp at r3
    · obtain ⟨bm, ob, b1, b2, b3, b4, b5, b6⟩ := bmn
      refine ⟨bm, ob, b1, b2, fun e => ?_, fun e => ?_, bas b3 (gN b3 (fun vs n z => by rw [b6] at z; cases z) fun z => by rw [b6] at z; cases z), b4, b5, b6⟩
      · obtain ⟨o2, es, ep2, e2, hd, _⟩ := nm
        rw [e, e2] at b3
        cases b3
        rw [hd] at b6
        cases b6
      · rw [e, ep] at b3
        cases b3
        cases b6
    · intro e
      obtain ⟨o2, es, ep2, e2, hd, _⟩ := nm
      rw [e, ep] at e2
      cases e2
      cases hd
  have env0 : Env0 P w K mg (hidT s.heap G) callerA [] s G := ⟨rfl, md, fun b ob e => of_hidT e, Nat.le_of_eq (hidT_size _ _), trivial, fun b hb => absurd (show b ∈ ([] : List Addr) from hb) (by simp), hok, .of_eq gn⟩
  have prom := hsp o ok1 ok2 nt (by rw [eH]; exact sq)
  rw [eH] at prom
  refine codeAny_mono ((F _ TB).run callerA [] s G ⟨[.ref a], []⟩ [.ref a] [.ref a] _ _ rfl hr env0 (bd s (.ref a)) (.cons rfl .nil) prom) fun r u z => ?_
  cases r with
  | error e =>
    obtain ⟨_, _, _, _, _, _, _, _, _, _, _, _, q⟩ := (show L2.CX P w [] G s (fun _ _ _ => False) e u from z)
    exact q.elim
  | ok fl =>
    cases fl with
    | ret v =>
      obtain ⟨y, G2, os, bare, un, hok2, rv, q⟩ := z
      have q2 : y = .bl true := q
      subst q2
      obtain rfl : v = Value.bool true := rv
      have same : ∀ b ob, b ∉ cs.map (·.2) → s.heap.get? b = some ob → u.heap.get? b = some ob := fun b ob nb e => by
        rcases gO b with c | c | ⟨o2, u2, c⟩
        · exact un.keep b ob e c (by intro z; exact absurd (show b ∈ ([] : List Addr) from z) (by simp)) (by simp)
        · exact absurd c nb
        · obtain ⟨e1, _⟩ := hok b _ c
          obtain ⟨e2, _⟩ := hok2 b _ (un.frzs b o2 _ c)
          rw [e] at e1
          cases e1
          exact e2
      have more : ∀ p ∈ cs, ∃ vs : Array Value, u.heap.get? p.2 = some { cls := .none, data := .fields vs } := fun p hp => by
        obtain ⟨m, c⟩ := un.tbls p.2 #[] (gT p hp)
        exact ⟨_, hok2 p.2 _ c⟩
      refine ⟨rfl, ⟨fun b ob e => ?_, fun b ob e => ?_⟩, os, bare⟩
      · by_cases hb : b ∈ cs.map (·.2)
        · obtain ⟨p, hp, ep⟩ := List.mem_map.mp hb
          obtain ⟨vs, c⟩ := more p hp
          rw [← ep] at e ⊢
          rw [tE p hp] at e
          cases e
          exact .inr (.inl ⟨((tC p hp).tab (tE p hp)).isCodeTable, rfl, #[], vs, rfl, by rw [Array.empty_append]; exact c⟩)
        · exact .inl (same b ob hb e)
      · by_cases hb : b ∈ cs.map (·.2)
        · obtain ⟨p, hp, ep⟩ := List.mem_map.mp hb
          obtain ⟨vs, c⟩ := more p hp
          rw [← ep]
          exact ⟨_, c⟩
        · exact ⟨ob, same b ob hb e⟩
    | _ => exact False.elim z
end
end Mv
set_option Elab.async false
set_option linter.all false
set_option maxRecDepth 100000
/-! Mv, part AB: a law whose defs make lambdas, behind the head. -/
namespace Mv
open PySem PySem.Spec PyProof.Rows L2
/-- the small heap at the start: the tables -/
def hT (ts : List (Nat × Str)) : VH := ts.map fun t => .tbl t.1 t.2
def TBs (mg : Str → Option Value) (cs : List (Addr × Addr)) (base : Heap) : Prop := ∀ p ∈ cs, LamX.TabB base mg p.1 p.2
theorem hk_start {K : PySem.W.Frag} {g : Gx} {ts : List (Nat × Str)} {l : List Addr} {a : Addr} {o : Option HO} (el : l = ts.map fun t => g.adr t.1) (nd : l.Nodup) (na : a ∉ l) (fr : o = none ∨ ∃ ob u, o = some (.frz ob u)) :
    Hk K g.adr ⟨l.map some, fun _ => False, []⟩ (hT ts) (H0 l a o) where
  len := by unfold hT; rw [el]; simp
  inj := fun n m b hn hm => by
    simp only [List.getElem?_map, Option.map_eq_some_iff] at hn hm
    obtain ⟨c, h1, e1⟩ := hn
    obtain ⟨d, h2, e2⟩ := hm
    cases e1
    cases e2
    exact (List.getElem?_inj (List.getElem?_eq_some_iff.mp h1).1 nd).mp (h1.trans h2.symm)
  obj := fun n b hn => by
    simp only [List.getElem?_map, Option.map_eq_some_iff] at hn
    obtain ⟨c, h1, e1⟩ := hn
    cases e1
    have hb : b ∈ l := List.mem_of_getElem? h1
    rw [el, List.getElem?_map, Option.map_eq_some_iff] at h1
    obtain ⟨t, h2, e2⟩ := h1
    refine ⟨.tbl t.1 t.2, by unfold hT; rw [List.getElem?_map, h2]; rfl, e2.symm, #[], H0_tab hb, trivial, fun pos cv z => ?_⟩
    have z2 : codeAmong pos [] = some cv := z
    simp [codeAmong] at z2
  has := fun n u hn hu => by
    unfold hT at hn
    rw [List.getElem?_map, Option.map_eq_some_iff] at hn
    obtain ⟨t, h1, e1⟩ := hn
    refine ⟨g.adr t.1, ?_⟩
    show (l.map some)[n]? = _
    rw [el, List.getElem?_map, List.getElem?_map, h1]
    rfl
  prot := fun b hb => by
    rcases hb with z | z
    · exact z.elim
    · cases z
  own := fun b hb => hb.elim
  ownI := fun n m b hn => by cases hn
  spc := fun b u e => by
    by_cases hb : b ∈ l
    · rw [H0_tab hb] at e
      cases e
      exact List.mem_map.mpr ⟨b, hb, rfl⟩
    · by_cases ha : b = a
      · subst ha
        rw [H0_a na] at e
        rcases fr with z | ⟨ob, u2, z⟩
        · rw [z] at e; cases e
        · rw [z] at e; cases e; trivial
      · rw [H0_no hb ha] at e
        cases e
theorem walk_mvT {l : PySem.W.OpenLaw} {n k : Nat} {q : Program} {loose : List Str} {XP : (Str → Option Value) → Heap → Prop} {YP : World → Heap → Prop} {d : DefRec} {x : Str} {mf : MF} {ts : List (Nat × Str)} (h1 : l.most = some n) (h2 : n ≤ sizeLine) (h3 : d.params.defaults = []) (h4 : Room k callerA)
    (F : ∀ (w : World) (mg : Str → Option Value) (fa : Addr) (h : Heap), YP w h → h.Ns mainGlobals mg → mg d.name = some (.ref fa) → ∃ (K : PySem.W.Frag) (g : Gx) (cs : List (Addr × Addr)), K.In h ∧ (∀ p ∈ cs, h.get? p.2 = some tabO) ∧ (∀ p ∈ cs, K.lookup p.2 = none) ∧
      (∀ p ∈ cs, PySem.W.CodeHd h p.1 p.2) ∧ cs.map (·.2) = ts.map (fun t => g.adr t.1) ∧ (cs.map (·.2)).Nodup ∧ OkG l.prog w K mg g (TBs mg cs) k fa [x] mf)
    (hm : ∀ ns : List Int, ns.length ≤ n → ∃ h, mf [.rol (ns.map VV.int)] (hT ts) = .ok (.bl true) h) : PySem.W.WalkO q loose XP YP l.row.toRowW d [] (fun f vs => PySem.call f vs) := by
  refine Att.attach_callB h1 h3 fun w s0 s1 mg mb fa o pm cd doc a vs ns G Y e1 e2 e3 e4 e5 e6 e7 _ e8 => ?_
  obtain ⟨K, g, cs, KX, tE, tK, tC, et, nd, fd, ok, _, _, hb⟩ := F w mg fa _ Y G.T.g e4
  refine law_callG KX G.T.g G.T.b G.T.builtins G.T.nolimit e8 tE tK tC G.T.bmain e5 e6 (Nat.le_trans e7 h2) h4 (fun base tb => ok base tb) (fun s u => hb s [u] rfl) fun o ok1 ok2 nt sq => ?_
  obtain ⟨hh, em⟩ := hm ns e7
  refine ⟨_, hT ts, [.rol (ns.map VV.int)], hk_start et nd nt ok2, ?_, ?_⟩
  · have nm : ¬ (⟨(cs.map (·.2)).map some, fun _ => False, []⟩ : Wd).mut a := fun z => by
      rcases z with z | z | z
      · obtain ⟨b, hb, e⟩ := List.mem_map.mp z
        cases e
        exact nt hb
      · exact z
      · cases z
    simp only [RVs, RV]
    refine ⟨_, [], rfl, ⟨a, ns.map V.int, rfl, ?_, RVs.of_ints ns⟩, rfl⟩
    rcases sq with sq | sq
    · left
      rcases sq with sq | ⟨ob, sq⟩
      · rw [H0_a nt] at sq
        rcases ok2 with z | ⟨ob, u, z⟩
        · rw [z] at sq; cases sq
        · rw [z] at sq; cases sq
      · exact ⟨ob, sq, nm⟩
    · exact .inr sq
  · rw [em]
    intro w' H' y ex k' r
    simpa only [relV, RV] using r
end Mv
set_option Elab.async false
set_option linter.all false
set_option maxRecDepth 100000
/-! Mv, part AC: x, y, z = (e, [], []), y and z own lists from there on. -/
namespace Mv
open PySem PySem.Spec PyProof.Rows L2
/-- a try's clauses, out of the def's text -/
def hsOf : List Stmt → List ExceptHandler
  | [.Try _ hs _ _ _, _] => hs
  | _ => []
def asgO3 (i j l : Nat) (a : ME) : MS := fun sl h => (a (view sl) h).toS sl fun v h1 => .nx (((sl.set j (.own [])).set l (.own [])).set i (.val v)) h1
section
variable {X : Cx} {g : Gx} {W : WX} {e : Expr} {me : ME} {i j l : Nat} {x y z : Str} {px py pz p1 p2 pt pt2 pos : Pos} {kt k2 : Nat}
theorem rs_asgO3 (i j l : Nat) (nd : X.N.Nodup) (hpe : RE X g W e me) (hc : X.calm = true := by rfl) (hi : X.N[i]? = some x := by rfl) (hj : X.N[j]? = some y := by rfl) (hl : X.N[l]? = some z := by rfl) (hij : i ≠ j := by decide) (hil : i ≠ l := by decide) (hjl : j ≠ l := by decide)
    (hx : Loc X.env.scope x := by first | exact Or.inl rfl | exact Or.inr rfl) (hy : Loc X.env.scope y := by first | exact Or.inl rfl | exact Or.inr rfl) (hz : Loc X.env.scope z := by first | exact Or.inl rfl | exact Or.inr rfl)
    (fx : X.fn x = true ∨ X.env.scope.names.lookup x = some .local := by first | exact .inl rfl | exact .inr rfl) (fy : X.fn y = true ∨ X.env.scope.names.lookup y = some .local := by first | exact .inl rfl | exact .inr rfl) (fz : X.fn z = true ∨ X.env.scope.names.lookup z = some .local := by first | exact .inl rfl | exact .inr rfl)
    (s1 : starEach (e :: [.List [] p1, .List [] p2]) X.env = (false, eval e X.env) :: starEach [.List [] p1, .List [] p2] X.env := by rfl)
    (hs : swapsWithSole [.Tuple [.Name x px, .Name y py, .Name z pz] kt pt] (.Tuple [e, .List [] p1, .List [] p2] k2 pt2) pos.line X.env = pure false := by rfl)
    (hw : swappedStores [.Tuple [.Name x px, .Name y py, .Name z pz] kt pt] (.Tuple [e, .List [] p1, .List [] p2] k2 pt2) X.env = pure none := by rfl) :
    RS X g W (.Assign [.Tuple [.Name x px, .Name y py, .Name z pz] kt pt] (.Tuple [e, .List [] p1, .List [] p2] k2 pt2) pos) (asgO3 i j l me) := by
  have tg := pg_tup (X := X) (k := kt) (pos := pt) hc (pgs_cons (pg_name (pos := px) nd hi hx fx) (pgs_cons (pg_name (pos := py) nd hj hy fy) (pgs_cons (pg_name (pos := pz) nd hl hz fz) pgs_nil)))
  have rh := pe_tup (X := X) (x1 := k2) (pos := pt2) (pa_cons hpe (pa_cons (pe_lst (pos := p1) pa_nil) (pa_cons (pe_lst (pos := p2) pa_nil) pa_nil)) s1)
  refine ps_imp (ps_asg rh tg hs hw) fun D σ H ⟨w, sl, h, f, k, p⟩ => ?_
  refine seqS f k p fun w1 H1 h1 v u e1 f1 k1 r1 q => ?_
  refine ⟨by rw [sizeLine_eq]; simp, fun a ha => ⟨by rw [sizeLine_eq]; simp, fun b hb => ⟨by rw [sizeLine_eq]; simp, fun c hc2 => ?_⟩⟩⟩
  have f2 := f1.mkOwn (i := j) (xs := []) (ys := []) ha (by simp [RVs])
  have k2' := k1.mkOwn (i := j) (o := .lst []) ha
  have x2 := own_ext (i := j) (o := .lst []) k1 ha
  have f3 := f2.mkOwn (i := l) (xs := []) (ys := []) hb (by simp [RVs])
  have k3 := k2'.mkOwn (i := l) (o := .lst []) hb
  have x3 := own_ext (i := l) (o := .lst []) k2' hb
  have x4 : Ext _ _ _ _ := Ext.grow (o := .tup [u, .ref a, .ref b]) k3 hc2
  have k4 := Hk.grow (o := .tup [u, .ref a, .ref b]) k3 hc2
  have f4 := f3.mono x4
  have r4 := RV.mono ((x2.trans x3).trans x4.toS).sees _ _ r1
  have f5 := f4.setv (i := i) r4
  have k5 := k4.drop (i := i)
  have x5 := drop_ext (w := ((w1.own j a).own l b)) (H := upd (upd (upd H1 a (.lst [])) b (.lst [])) c (.tup [u, .ref a, .ref b])) (i := i)
  refine ⟨c, [u, .ref a, .ref b], rfl, .inl (.inl upd_same), rfl, u, [.ref a, .ref b], rfl, .ref a, [.ref b], rfl, .ref b, [], rfl, rfl, ?_⟩
  have q2 := q _ _ _ ((x2.trans x3).trans (x4.toS.trans x5)) k5 f5
  rw [List.set_comm _ _ (Ne.symm hil), List.set_comm _ _ (Ne.symm hij)] at q2
  exact q2
end
def asgV3 (i j l : Nat) (a : ME) : MS := fun sl h => (a (view sl) h).toS sl fun v h1 => .nx (((sl.set j (.own [])).set l (.val (.lst []))).set i (.val v)) h1
section
variable {X : Cx} {g : Gx} {W : WX} {e : Expr} {me : ME} {i j l : Nat} {x y z : Str} {px py pz p1 p2 pt pt2 pos : Pos} {kt k2 : Nat}
theorem rs_asgV3 (i j l : Nat) (nd : X.N.Nodup) (hpe : RE X g W e me) (hc : X.calm = true := by rfl) (hi : X.N[i]? = some x := by rfl) (hj : X.N[j]? = some y := by rfl) (hl : X.N[l]? = some z := by rfl) (hij : i ≠ j := by decide) (hil : i ≠ l := by decide) (hjl : j ≠ l := by decide)
    (hx : Loc X.env.scope x := by first | exact Or.inl rfl | exact Or.inr rfl) (hy : Loc X.env.scope y := by first | exact Or.inl rfl | exact Or.inr rfl) (hz : Loc X.env.scope z := by first | exact Or.inl rfl | exact Or.inr rfl)
    (fx : X.fn x = true ∨ X.env.scope.names.lookup x = some .local := by first | exact .inl rfl | exact .inr rfl) (fy : X.fn y = true ∨ X.env.scope.names.lookup y = some .local := by first | exact .inl rfl | exact .inr rfl) (fz : X.fn z = true ∨ X.env.scope.names.lookup z = some .local := by first | exact .inl rfl | exact .inr rfl)
    (s1 : starEach (e :: [.List [] p1, .List [] p2]) X.env = (false, eval e X.env) :: starEach [.List [] p1, .List [] p2] X.env := by rfl)
    (hs : swapsWithSole [.Tuple [.Name x px, .Name y py, .Name z pz] kt pt] (.Tuple [e, .List [] p1, .List [] p2] k2 pt2) pos.line X.env = pure false := by rfl)
    (hw : swappedStores [.Tuple [.Name x px, .Name y py, .Name z pz] kt pt] (.Tuple [e, .List [] p1, .List [] p2] k2 pt2) X.env = pure none := by rfl) :
    RS X g W (.Assign [.Tuple [.Name x px, .Name y py, .Name z pz] kt pt] (.Tuple [e, .List [] p1, .List [] p2] k2 pt2) pos) (asgV3 i j l me) := by
  have tg := pg_tup (X := X) (k := kt) (pos := pt) hc (pgs_cons (pg_name (pos := px) nd hi hx fx) (pgs_cons (pg_name (pos := py) nd hj hy fy) (pgs_cons (pg_name (pos := pz) nd hl hz fz) pgs_nil)))
  have rh := pe_tup (X := X) (x1 := k2) (pos := pt2) (pa_cons hpe (pa_cons (pe_lst (pos := p1) pa_nil) (pa_cons (pe_lst (pos := p2) pa_nil) pa_nil)) s1)
  refine ps_imp (ps_asg rh tg hs hw) fun D σ H ⟨w, sl, h, f, k, p⟩ => ?_
  refine seqS f k p fun w1 H1 h1 v u e1 f1 k1 r1 q => ?_
  refine ⟨by rw [sizeLine_eq]; simp, fun a ha => ⟨by rw [sizeLine_eq]; simp, fun b hb => ⟨by rw [sizeLine_eq]; simp, fun c hc2 => ?_⟩⟩⟩
  have f2 := f1.mkOwn (i := j) (xs := []) (ys := []) ha (by simp [RVs])
  have k2' := k1.mkOwn (i := j) (o := .lst []) ha
  have x2 := own_ext (i := j) (o := .lst []) k1 ha
  have x3 : Ext (w1.own j a) (upd H1 a (.lst [])) (w1.own j a) (upd (upd H1 a (.lst [])) b (.lst [])) := Ext.grow k2' hb
  have k3 := Hk.grow (o := .lst []) k2' hb
  have f3 := f2.mono x3
  have x4 : Ext (w1.own j a) (upd (upd H1 a (.lst [])) b (.lst [])) (w1.own j a) (upd (upd (upd H1 a (.lst [])) b (.lst [])) c (.tup [u, .ref a, .ref b])) := Ext.grow k3 hc2
  have k4 := Hk.grow (o := .tup [u, .ref a, .ref b]) k3 hc2
  have f4 := f3.mono x4
  have rb : RV X.K g.adr (w1.own j a) (upd (upd (upd H1 a (.lst [])) b (.lst [])) c (.tup [u, .ref a, .ref b])) (.lst []) (.ref b) := RV.lst_of (ys := []) (by rw [upd_ne (ne_of_none upd_same hc2), upd_same]) (k2'.fresh hb) (by simp [RVs])
  have f4' := f4.setv (i := l) rb
  have k4' := k4.drop (i := l)
  have x4' := drop_ext (w := w1.own j a) (H := upd (upd (upd H1 a (.lst [])) b (.lst [])) c (.tup [u, .ref a, .ref b])) (i := l)
  have r4 := RV.mono ((x2.trans x3.toS).trans (x4.toS.trans x4')).sees _ _ r1
  have f5 := f4'.setv (i := i) r4
  have k5 := k4'.drop (i := i)
  have x5 := drop_ext (w := (w1.own j a).drop l) (H := upd (upd (upd H1 a (.lst [])) b (.lst [])) c (.tup [u, .ref a, .ref b])) (i := i)
  refine ⟨c, [u, .ref a, .ref b], rfl, .inl (.inl upd_same), rfl, u, [.ref a, .ref b], rfl, .ref a, [.ref b], rfl, .ref b, [], rfl, rfl, ?_⟩
  have q2 := q _ _ _ (((x2.trans x3.toS).trans (x4.toS.trans x4')).trans x5) k5 f5
  rw [List.set_comm _ _ (Ne.symm hil), List.set_comm _ _ (Ne.symm hij)] at q2
  exact q2
end
end Mv
set_option Elab.async false
set_option linter.all false
set_option maxRecDepth 100000
/-! Mv, part AD: the head's facts, the library's statics among them. -/
namespace Mv
open PySem PySem.W PySem.Spec PyProof.Rows L2
def asS (g : Addr → Option Obj) (n : Nat) : List Addr := cStatics :: He.asD g n
def obsS (n : Nat) (fa : List He.Fa) (fn : List He.DefD) (tf : List He.Defn) (ex : Frag → Bool) (g : Addr → Option Obj) : He.AlX := (He.obsT fa fn [] (He.frT g (asS g n)), ex (He.frT g (asS g n)) && He.tabsB g tf (He.frT g (asS g n)))
theorem saysS_of {n : Nat} {fa : List He.Fa} {fn : List He.DefD} {tf : List He.Defn} {ex : Frag → Bool} {w : World} {h : Heap} (e : obsS n fa fn tf ex h.get? = He.valX fn [] w) : He.SaysX fa fn [] tf ex w h (He.frT h.get? (asS h.get? n)) := by
  have e1 : He.obsT fa fn [] (He.frT h.get? (asS h.get? n)) = He.valT fn [] w := congrArg Prod.fst e
  have e2 : (ex (He.frT h.get? (asS h.get? n)) && He.tabsB h.get? tf (He.frT h.get? (asS h.get? n))) = true := congrArg Prod.snd e
  obtain ⟨i1, i2⟩ := Bool.and_eq_true_iff.mp e2
  have each : ∀ p ∈ tf, codeHdIn (He.frT h.get? (asS h.get? n)) (He.cT (He.frT h.get? (asS h.get? n)) p).1 (He.cT (He.frT h.get? (asS h.get? n)) p).2 = true ∧ ∃ o, h.get? (He.cT (He.frT h.get? (asS h.get? n)) p).2 = some o ∧ He.emptyTab o = true := fun p hp => by
    obtain ⟨j1, j2⟩ := Bool.and_eq_true_iff.mp (List.all_eq_true.mp i2 p hp)
    refine ⟨j1, ?_⟩
    cases q : h.get? (He.cT (He.frT h.get? (asS h.get? n)) p).2 with
    | some o =>
      rw [q] at j2
      exact ⟨o, rfl, j2⟩
    | none =>
      rw [q] at j2
      cases j2
  refine ⟨e1, i1, fun p hp => (each p hp).1, fun p hp => ?_, fun p hp => ?_⟩
  · obtain ⟨_, o, q, z⟩ := each p hp
    exact He.frT_none q z
  · obtain ⟨_, o, q, z⟩ := each p hp
    rw [q, He.emptyTab_eq z]
def hookS (n : Nat) (fa : List He.Fa) (fn : List He.DefD) (tf : List He.Defn) (ex : Frag → Bool) : Hook where
  α := He.AlX
  obs := fun s => obsS n fa fn tf ex s.heap.get?
  val := fun w => He.valX fn [] w
  says := fun w h => ∃ K : Frag, K.In h ∧ He.SaysX fa fn [] tf ex w h K
  of := fun _ _ e => ⟨_, He.frT_in, saysS_of e⟩
  keeps := fun _ _ _ ⟨K, i, c⟩ k => ⟨K, Frag.In.keeps i k, ⟨c.t, c.more, c.hd, c.out, fun p hp => k _ _ (c.empty p hp)⟩⟩
theorem obsS_eq {n : Nat} {fa : List He.Fa} {fn : List He.DefD} {tf : List He.Defn} {ex : Frag → Bool} {g : Addr → Option Obj} {s : Shared} (h : ∀ a, g a = s.heap.get? a) : obsS n fa fn tf ex g = (hookS n fa fn tf ex).obs s := by
  have e : g = s.heap.get? := funext h
  rw [e]
  rfl
end Mv
set_option Elab.async false
set_option linter.all false
set_option maxRecDepth 100000
namespace K03
open PySem PySem.Spec PyProof.Rows L2 Mv
def exmL : List (Nat × Nat × Bool) := [(5, 5, true), (5, 6, false), (5, 7, false), (6, 5, false), (6, 6, true), (6, 7, false), (7, 5, false), (7, 6, false), (7, 7, true)]
abbrev exm : Nat → Nat → Option Bool := exmT exmL
def hs_met : List (Nat × HK) := [(5, .txt "lot"), (6, .txt "operation"), (7, .rep "number ")]

def tsL : List (Nat × Str) := [(8, "_law_right.<locals>.<lambda>"), (9, "law.<locals>.<lambda>")]

def b_cj_hat : MS := seqM (setM 2 (ifM (blM (opM ltV (varM 1) (callM lenF (consA (varM 0) (nilA))))) (callM intF (consA (opM ixV (varM 0) (varM 1)) (nilA))) (opM addV (opM mulV (cM (.int 271)) (varM 1)) (cM (.int 59))))) (seqM (setM 3 (opM modV (callM intF (consA (callM absF (consA (varM 2) (nilA))) (nilA))) (opM powV (opM powV (cM (.int 10)) (cM (.int 50))) (cM (.int 8))))) (seqM (setM 4 (callM intF (consA (opM addV (opM addV (opM addV (opM mulV (opM modV (varM 3) (cM (.int 2305843009213693907))) (cM (.int 79))) (opM mulV (cM (.int 6151)) (varM 1))) (opM mulV (cM (.int 31)) (callM intF (consA (opM ltV (varM 2) (cM (.int 0))) (nilA))))) (cM (.int 37))) (nilA)))) (retV (newM (consA (callM maxF (consA (cM (.int 0)) (consA (opM subV (varM 3) (opM powV (cM (.int 10)) (cM (.int 16)))) (nilA)))) (consA (opM modV (varM 4) (cM (.int 2305843009213693951))) (consA (cM (.int 0)) (nilA))))))))
def m_cj_hat : MF := fnM 5 2 b_cj_hat

def b_cj_up : MS := seqM (ifS (blM (opM gtV (opM ixV (varM 0) (cM (.int 0))) (cM (.int 0)))) (seqM (setM 2 (opM modV (callM intF (consA (opM ixV (varM 0) (cM (.int 0))) (nilA))) (varM 1))) (seqM (setIxM (varM 0) (cM (.int 0)) (opM fdivV (opM ixV (varM 0) (cM (.int 0))) (varM 1))) (retV (varM 2)))) (skipM)) (seqM (setIxM (varM 0) (cM (.int 2)) (opM addV (opM ixV (varM 0) (cM (.int 2))) (cM (.int 1)))) (seqM (setM 3 (opM modV (callM intF (consA (opM addV (opM ixV (varM 0) (cM (.int 1))) (opM mulV (cM (.int 67867979)) (opM ixV (varM 0) (cM (.int 2))))) (nilA))) (cM (.int 2305843009213693951)))) (seqM (setM 4 (opM addV (opM addV (opM mulV (opM modV (callM intF (consA (opM addV (opM mulV (varM 3) (varM 3)) (cM (.int 86028121))) (nilA))) (cM (.int 2305843009213693921))) (cM (.int 15485867))) (varM 3)) (opM mulV (cM (.int 23)) (opM ixV (varM 0) (cM (.int 2)))))) (retV (opM modV (callM intF (consA (opM fdivV (varM 4) (cM (.int 65539))) (nilA))) (varM 1))))))
def m_cj_up : MF := fnM 5 2 b_cj_up

def b_cj_turned : MS := retV (opM ixV (varM 0) (opM modV (callM intF (consA (varM 1) (nilA))) (callM lenF (consA (varM 0) (nilA)))))
def m_cj_turned : MF := fnM 2 2 b_cj_turned

def b_is_letter : MS := retV (andV (callM isiF (consA (varM 0) (consA (cM (.ty .int)) (nilA)))) (andV (notV (callM isiF (consA (varM 0) (consA (cM (.ty .bool)) (nilA))))) (chainM leV ltV (cM (.int 0)) (varM 0) (cM (.int 6)))))
def m_is_letter : MF := fnM 1 1 b_is_letter

def b_is_lot : MS := seqM (ifS (orT (notT (blM (callM isiF (consA (varM 0) (consA (cM (.ty .tuple)) (nilA)))))) (notT (blM (callM allF (consA (lcM (seqI (varM 0)) (nameG 1) [1] (yesT) (callF m_is_letter (consA (varM 1) (nilA)))) (nilA)))))) (retV (cM (.bl false))) (skipM)) (retV (callM allF (consA (lcM (zipI (consA (varM 0) (consA (sliceM (varM 0) (someO (cM (.int 1))) (noneO)) (nilA)))) (tupG (consG (nameG 2) (consG (nameG 3) (nilG)))) [2, 3] (yesT) (opM ltV (varM 2) (varM 3))) (nilA))))
def m_is_lot : MF := fnM 4 1 b_is_lot

def b_require_lot : MS := ifS (notT (blM (callF m_is_lot (consA (varM 0) (nilA))))) (raiseM 5) (skipM)
def m_require_lot : MF := fnM 1 1 b_require_lot

def b_require_lots : MS := seqM (dropM (callF m_require_lot (consA (varM 0) (nilA)))) (dropM (callF m_require_lot (consA (varM 1) (nilA))))
def m_require_lots : MF := fnM 2 2 b_require_lots

def b_joined_in : MS := retV (callM tupleF (consA (callM sortedDF (consA (dcM (seqI (lstM (starA (varM 0) (starA (varM 1) (nilA))))) (nameG 2) [2] (yesT) (varM 2) (cM (.bl true))) (nilA))) (nilA)))
def m_joined_in : MF := fnM 3 2 b_joined_in

def b_joined_lot : MS := seqM (dropM (callF m_require_lots (consA (varM 0) (consA (varM 1) (nilA))))) (retV (callF m_joined_in (consA (varM 0) (consA (varM 1) (nilA)))))
def m_joined_lot : MF := fnM 2 2 b_joined_lot

def b_common_in : MS := retV (callM tupleF (consA (lcM (seqI (varM 0)) (nameG 2) [2] (blM (opM (inF false) (varM 2) (varM 1))) (varM 2)) (nilA)))
def m_common_in : MF := fnM 3 2 b_common_in

def b_common_lot : MS := seqM (dropM (callF m_require_lots (consA (varM 0) (consA (varM 1) (nilA))))) (retV (callF m_common_in (consA (varM 0) (consA (varM 1) (nilA)))))
def m_common_lot : MF := fnM 2 2 b_common_lot

def b_rest_in : MS := retV (callM tupleF (consA (lcM (seqI (varM 0)) (nameG 2) [2] (blM (opM (inF true) (varM 2) (varM 1))) (varM 2)) (nilA)))
def m_rest_in : MF := fnM 3 2 b_rest_in

def b_rest_lot : MS := seqM (dropM (callF m_require_lots (consA (varM 0) (consA (varM 1) (nilA))))) (retV (callF m_rest_in (consA (varM 0) (consA (varM 1) (nilA)))))
def m_rest_lot : MF := fnM 2 2 b_rest_lot

def b_within_in : MS := retV (callM allF (consA (lcM (seqI (varM 0)) (nameG 2) [2] (yesT) (opM (inF false) (varM 2) (varM 1))) (nilA)))
def m_within_in : MF := fnM 3 2 b_within_in

def b_is_within : MS := seqM (dropM (callF m_require_lots (consA (varM 0) (consA (varM 1) (nilA))))) (retV (callF m_within_in (consA (varM 0) (consA (varM 1) (nilA)))))
def m_is_within : MF := fnM 2 2 b_is_within

def b_are_beside : MS := retV (andV (notV (callF m_within_in (consA (varM 0) (consA (varM 1) (nilA))))) (notV (callF m_within_in (consA (varM 1) (consA (varM 0) (nilA))))))
def m_are_beside : MF := fnM 2 2 b_are_beside

def b_are_apart : MS := seqM (dropM (callF m_require_lots (consA (varM 0) (consA (varM 1) (nilA))))) (retV (callF m_are_beside (consA (varM 0) (consA (varM 1) (nilA)))))
def m_are_apart : MF := fnM 2 2 b_are_apart

def b_lots_within_in : MS := seqM (ownM 1 (consA (tupM (nilA)) (nilA))) (seqM (forM (seqI (varM 0)) (nameG 2) (extF 1 (consA (lcM (seqI (varM 1)) (nameG 3) [3] (yesT) (tupM (starA (varM 3) (consA (varM 2) (nilA))))) (nilA)))) (retF (callM sortedLF (consA (varM 1) (nilA)))))
def m_lots_within_in : MF := fnM 4 1 b_lots_within_in

def b_lots_within : MS := seqM (dropM (callF m_require_lot (consA (varM 0) (nilA)))) (retV (callM tupleF (consA (callF m_lots_within_in (consA (varM 0) (nilA))) (nilA))))
def m_lots_within : MF := fnM 1 1 b_lots_within

def b_all_letters : MS := retV (callM tupleF (consA (callM sortedDF (consA (dc2M (seqI (varM 0)) (nameG 1) (seqI (varM 1)) (nameG 2) [1, 2] [2] (varM 2) (cM (.bl true))) (nilA))) (nilA)))
def m_all_letters : MF := fnM 3 1 b_all_letters

def b_lots_on : MS := seqM (ifS (orT (notT (blM (callM isiF (consA (varM 0) (consA (cM (.ty .tuple)) (nilA)))))) (notT (blM (callM allF (consA (lcM (seqI (varM 0)) (nameG 1) [1] (yesT) (callF m_is_lot (consA (varM 1) (nilA)))) (nilA)))))) (raiseM 6) (skipM)) (retV (callF m_all_letters (consA (varM 0) (nilA))))
def m_lots_on : MF := fnM 2 1 b_lots_on

def b_is_whole : MS := retV (andV (callM isiF (consA (varM 0) (consA (cM (.ty .int)) (nilA)))) (notV (callM isiF (consA (varM 0) (consA (cM (.ty .bool)) (nilA))))))
def m_is_whole : MF := fnM 1 1 b_is_whole

def b_is_integer : MS := retV (andV (callF m_is_whole (consA (varM 0) (nilA))) (chainM ltV ltV (negM (cM (.int 1000000000))) (varM 0) (cM (.int 1000000000))))
def m_is_integer : MF := fnM 1 1 b_is_integer

def b_require_number : MS := ifS (orT (notT (blM (callF m_is_integer (consA (varM 0) (nilA))))) (blM (opM ltV (varM 0) (cM (.int 0))))) (raiseV 7 (consA (varM 0) (nilA))) (skipM)
def m_require_number : MF := fnM 1 1 b_require_number

def b_power_in : MS := retV (ifM (blM (opM gtV (varM 0) (cM (.int 1)))) (bitsM (opM subV (varM 0) (cM (.int 1)))) (cM (.int 0)))
def m_power_in : MF := fnM 1 1 b_power_in

def b_power_for : MS := seqM (dropM (callF m_require_number (consA (varM 0) (nilA)))) (retV (callF m_power_in (consA (varM 0) (nilA))))
def m_power_for : MF := fnM 1 1 b_power_for

def b_is_within_numbers : MS := retV (andV (callF m_is_whole (consA (varM 0) (nilA))) (chainM leV leV (varM 1) (varM 0) (varM 2)))
def m_is_within_numbers : MF := fnM 3 3 b_is_within_numbers

def b_is_bound : MS := seqM (ifS (orT (notT (blM (callM isiF (consA (varM 0) (consA (cM (.ty .tuple)) (nilA)))))) (blM (opM (eqV true) (callM lenF (consA (varM 0) (nilA))) (cM (.int 2))))) (retV (cM (.bl false))) (skipM)) (retV (andV (callF m_is_within_numbers (consA (opM ixV (varM 0) (cM (.int 0))) (consA (cM (.int 0)) (consA (cM (.int 10000)) (nilA))))) (callF m_is_within_numbers (consA (opM ixV (varM 0) (cM (.int 1))) (consA (cM (.int 1)) (consA (cM (.int 1000)) (nilA)))))))
def m_is_bound : MF := fnM 1 1 b_is_bound

def b_require_bound : MS := ifS (notT (blM (callF m_is_bound (consA (varM 0) (nilA))))) (raiseM 6) (skipM)
def m_require_bound : MF := fnM 1 1 b_require_bound

def b_raised : MS := seqM (par3M 2 3 4 (consA (cM (.int 1)) (consA (varM 0) (consA (varM 1) (nilA))))) (seqM (whileM (fun _ _ => 100000) (blM (opM gtV (varM 4) (cM (.int 0)))) (seqM (setM 2 (ifM (blM (opM (eqV false) (opM modV (varM 4) (cM (.int 2))) (cM (.int 1)))) (opM mulV (varM 2) (varM 3)) (varM 2))) (parM 3 4 (consA (opM mulV (varM 3) (varM 3)) (consA (opM fdivV (varM 4) (cM (.int 2))) (nilA)))))) (retV (varM 2)))
def m_raised : MF := fnM 5 2 b_raised

def b_is_below_in : MS := retV (opM leV (callF m_raised (consA (varM 0) (consA (opM ixV (varM 1) (cM (.int 1))) (nilA)))) (opM shlV (cM (.int 1)) (opM ixV (varM 1) (cM (.int 0)))))
def m_is_below_in : MF := fnM 2 2 b_is_below_in

def b_is_below : MS := seqM (dropM (callF m_require_number (consA (varM 0) (nilA)))) (seqM (dropM (callF m_require_bound (consA (varM 1) (nilA)))) (retV (callF m_is_below_in (consA (varM 0) (consA (varM 1) (nilA))))))
def m_is_below : MF := fnM 2 2 b_is_below

def b_most_in : MS := seqM (parM 1 2 (consA (cM (.int 1)) (consA (opM shlV (cM (.int 1)) (opM addV (opM fdivV (opM ixV (varM 0) (cM (.int 0))) (opM ixV (varM 0) (cM (.int 1)))) (cM (.int 1)))) (nilA)))) (seqM (whileM (fun _ _ => 100000) (blM (opM gtV (opM subV (varM 2) (varM 1)) (cM (.int 1)))) (seqM (setM 3 (opM fdivV (opM addV (varM 1) (varM 2)) (cM (.int 2)))) (ifS (blM (callF m_is_below_in (consA (varM 3) (consA (varM 0) (nilA))))) (setM 1 (varM 3)) (setM 2 (varM 3))))) (retV (varM 1)))
def m_most_in : MF := fnM 4 1 b_most_in

def b_most_within : MS := seqM (dropM (callF m_require_bound (consA (varM 0) (nilA)))) (retV (callF m_most_in (consA (varM 0) (nilA))))
def m_most_within : MF := fnM 1 1 b_most_within

def b_least_in : MS := seqM (setM 1 (callM gcdF (consA (opM ixV (varM 0) (cM (.int 0))) (consA (opM ixV (varM 0) (cM (.int 1))) (nilA))))) (retV (tupM (consA (opM fdivV (opM ixV (varM 0) (cM (.int 0))) (varM 1)) (consA (opM fdivV (opM ixV (varM 0) (cM (.int 1))) (varM 1)) (nilA)))))
def m_least_in : MF := fnM 2 1 b_least_in

def b_least_terms : MS := seqM (dropM (callF m_require_bound (consA (varM 0) (nilA)))) (retV (callF m_least_in (consA (varM 0) (nilA))))
def m_least_terms : MF := fnM 1 1 b_least_terms

def b_compared_in : MS := seqM (parM 2 3 (consA (opM mulV (opM ixV (varM 0) (cM (.int 0))) (opM ixV (varM 1) (cM (.int 1)))) (consA (opM mulV (opM ixV (varM 1) (cM (.int 0))) (opM ixV (varM 0) (cM (.int 1)))) (nilA)))) (retV (opM subV (callM intF (consA (opM gtV (varM 2) (varM 3)) (nilA))) (callM intF (consA (opM ltV (varM 2) (varM 3)) (nilA)))))
def m_compared_in : MF := fnM 4 2 b_compared_in

def b_compare_bounds : MS := seqM (dropM (callF m_require_bound (consA (varM 0) (nilA)))) (seqM (dropM (callF m_require_bound (consA (varM 1) (nilA)))) (retV (callF m_compared_in (consA (varM 0) (consA (varM 1) (nilA))))))
def m_compare_bounds : MF := fnM 2 2 b_compare_bounds

def b_right : MS := seqM (setM 1 (callF m_cj_turned (consA (lstM (consA (cM .non) (consA (cM (.int 0)) (consA (lstM (consA (cM (.int 0)) (nilA))) (consA (tupM (consA (cM (.int 1)) (consA (cM (.int 0)) (nilA)))) (consA (tupM (consA (cM (.int 0)) (consA (cM (.int 0)) (nilA)))) (consA (tupM (consA (cM (.int 6)) (nilA))) (consA (tupM (consA (negM (cM (.int 1))) (nilA))) (consA (tupM (consA (cM (.bl true)) (nilA))) (consA (tupM (consA (cM (.str "0")) (nilA))) (consA (cM (.str "01")) (consA (cM (.dct [] [])) (consA (tupM (consA (cM (.int 0)) (consA (cM .non) (nilA)))) (consA (tupM (consA (tupM (consA (cM (.int 0)) (nilA))) (nilA))) (nilA))))))))))))))) (consA (varM 0) (nilA))))) (seqM (setM 2 (callF m_cj_turned (consA (lstM (consA (cM .non) (consA (negM (cM (.int 1))) (consA (cM (.bl true)) (consA (cM (.str "1")) (consA (tupM (consA (cM (.int 1)) (nilA))) (consA (opM powV (cM (.int 10)) (cM (.int 9))) (consA (opM powV (cM (.int 10)) (cM (.int 50))) (consA (lstM (consA (cM (.int 2)) (nilA))) (nilA)))))))))) (consA (varM 0) (nilA))))) (seqM (setM 3 (lstM (consA (cM .non) (consA (cM (.int 3)) (consA (tupM (nilA)) (consA (tupM (consA (cM (.int 3)) (nilA))) (consA (lstM (consA (cM (.int 3)) (consA (cM (.int 2)) (nilA)))) (consA (tupM (consA (negM (cM (.int 1))) (consA (cM (.int 2)) (nilA)))) (consA (tupM (consA (cM (.int 3)) (consA (cM (.int 0)) (nilA)))) (consA (tupM (consA (cM (.int 3)) (consA (cM (.bl true)) (nilA)))) (consA (tupM (consA (cM (.bl true)) (consA (cM (.int 2)) (nilA)))) (consA (tupM (consA (cM (.int 10001)) (consA (cM (.int 1)) (nilA)))) (consA (tupM (consA (cM (.int 3)) (consA (cM (.int 1001)) (nilA)))) (consA (tupM (consA (cM (.int 3)) (consA (cM (.int 2)) (consA (cM (.int 1)) (nilA))))) (consA (tupM (consA (cM (.str "3")) (consA (cM (.int 2)) (nilA)))) (consA (cM (.dct [] [])) (nilA))))))))))))))))) (seqM (asgV3 3 4 5 (callF m_cj_turned (consA (varM 3) (consA (varM 0) (nilA))))) (seqM (forM (seqI (tupM (consA (cM (.adr 4)) (consA (cM (.adr 3)) (consA (cM (.adr 2)) (consA (cM (.adr 1)) (consA (cM (.adr 0)) (nilA)))))))) (nameG 6) (seqM (appM 4 (consA (lamM 0 8 "_law_right.<locals>.<lambda>" "fine" exm hs_met (callVM [(4, m_joined_lot), (3, m_common_lot), (2, m_rest_lot), (1, m_is_within), (0, m_are_apart)] 6 (consA (varM 1) (consA (varM 2) (nilA))))) (nilA))) (seqM (appM 4 (consA (lamM 0 8 "_law_right.<locals>.<lambda>" "fine" exm hs_met (callVM [(4, m_joined_lot), (3, m_common_lot), (2, m_rest_lot), (1, m_is_within), (0, m_are_apart)] 6 (consA (tupM (consA (cM (.int 0)) (consA (cM (.int 1)) (nilA)))) (consA (varM 1) (nilA))))) (nilA))) (seqM (appM 4 (consA (lamM 0 8 "_law_right.<locals>.<lambda>" "fine" exm hs_met (callVM [(4, m_joined_lot), (3, m_common_lot), (2, m_rest_lot), (1, m_is_within), (0, m_are_apart)] 6 (consA (tupM (consA (cM (.int 0)) (consA (cM (.int 1)) (nilA)))) (consA (tupM (nilA)) (nilA))))) (nilA))) (setM 5 (opM addV (varM 5) (lstM (consA (cM (.str "lot")) (consA (cM (.str "lot")) (consA (cM (.str "fine")) (nilA))))))))))) (seqM (appM 4 (consA (lamM 0 8 "_law_right.<locals>.<lambda>" "fine" exm hs_met (callF m_lots_within (consA (varM 1) (nilA)))) (nilA))) (seqM (appM 4 (consA (lamM 0 8 "_law_right.<locals>.<lambda>" "fine" exm hs_met (callF m_lots_on (consA (callF m_cj_turned (consA (lstM (consA (cM .non) (consA (cM (.int 0)) (consA (lstM (consA (tupM (nilA)) (nilA))) (consA (tupM (consA (tupM (consA (cM (.int 0)) (nilA))) (consA (varM 1) (nilA)))) (consA (tupM (consA (varM 1) (nilA))) (consA (cM (.str "lots")) (consA (cM (.dct [] [])) (nilA))))))))) (consA (varM 0) (nilA)))) (nilA)))) (nilA))) (seqM (appM 4 (consA (lamM 0 8 "_law_right.<locals>.<lambda>" "fine" exm hs_met (callF m_power_for (consA (varM 2) (nilA)))) (nilA))) (seqM (appM 4 (consA (lamM 0 8 "_law_right.<locals>.<lambda>" "fine" exm hs_met (callF m_is_below (consA (varM 2) (consA (varM 3) (nilA))))) (nilA))) (seqM (appM 4 (consA (lamM 0 8 "_law_right.<locals>.<lambda>" "fine" exm hs_met (callF m_is_below (consA (cM (.int 7)) (consA (varM 3) (nilA))))) (nilA))) (seqM (appM 4 (consA (lamM 0 8 "_law_right.<locals>.<lambda>" "fine" exm hs_met (callF m_most_within (consA (varM 3) (nilA)))) (nilA))) (seqM (appM 4 (consA (lamM 0 8 "_law_right.<locals>.<lambda>" "fine" exm hs_met (callF m_least_terms (consA (varM 3) (nilA)))) (nilA))) (seqM (appM 4 (consA (lamM 0 8 "_law_right.<locals>.<lambda>" "fine" exm hs_met (callF m_compare_bounds (consA (varM 3) (consA (cM .non) (nilA))))) (nilA))) (seqM (appM 4 (consA (lamM 0 8 "_law_right.<locals>.<lambda>" "fine" exm hs_met (callF m_compare_bounds (consA (tupM (consA (cM (.int 1)) (consA (cM (.int 2)) (nilA)))) (consA (varM 3) (nilA))))) (nilA))) (retF (opM (eqV false) (varM 4) (opM addV (opM addV (varM 5) (lstM (consA (cM (.str "lot")) (consA (cM (.str "operation")) (consA (opM addV (cM (.str "number ")) (callM reprF (consA (varM 2) (nilA)))) (consA (opM addV (cM (.str "number ")) (callM reprF (consA (varM 2) (nilA)))) (nilA))))))) (opM mulV (lstM (consA (cM (.str "operation")) (nilA))) (cM (.int 5)))))))))))))))))))
def m_right : MF := fnM 7 1 b_right

def b_law : MS := seqM (forM (rangeI (consA (callM maxF (consA (cM (.int 1)) (consA (callM minF (consA (cM (.int 3)) (consA (callM lenF (consA (varM 0) (nilA))) (nilA)))) (nilA)))) (nilA))) (nameG 1) (seqM (setM 2 (callF m_cj_up (consA (callF m_cj_hat (consA (varM 0) (consA (varM 1) (nilA)))) (consA (cM (.int 1000)) (nilA))))) (ifS (blM (opM (eqV true) (lcM (rangeI (consA (cM (.int 14)) (nilA))) (nameG 4) [4] (notT (blM (callF m_right (consA (opM addV (varM 2) (varM 4)) (nilA))))) (varM 4)) (lstM (nilA)))) (retV (cM (.bl false))) (skipM)))) (seqM (ownM 3 (consA (lamM 1 9 "law.<locals>.<lambda>" "fine" exm hs_met (callF m_most_within (consA (tupM (consA (cM (.int 10000)) (consA (cM (.int 1000)) (nilA)))) (nilA)))) (nilA))) (seqM (appM 3 (consA (lamM 1 9 "law.<locals>.<lambda>" "fine" exm hs_met (callF m_is_below (consA (opM subV (opM powV (cM (.int 10)) (cM (.int 9))) (cM (.int 1))) (consA (tupM (consA (cM (.int 10000)) (consA (cM (.int 1000)) (nilA)))) (nilA))))) (nilA))) (seqM (appM 3 (consA (lamM 1 9 "law.<locals>.<lambda>" "fine" exm hs_met (callF m_power_for (consA (opM subV (opM powV (cM (.int 10)) (cM (.int 9))) (cM (.int 1))) (nilA)))) (nilA))) (seqM (appM 3 (consA (lamM 1 9 "law.<locals>.<lambda>" "fine" exm hs_met (callF m_lots_within (consA (tupM (consA (cM (.int 0)) (consA (cM (.int 1)) (consA (cM (.int 2)) (consA (cM (.int 3)) (consA (cM (.int 4)) (consA (cM (.int 5)) (nilA)))))))) (nilA)))) (nilA))) (retF (andV (opM (eqV false) (varM 3) (opM mulV (lstM (consA (cM (.str "fine")) (nilA))) (cM (.int 4)))) (opM (eqV false) (callF m_most_within (consA (tupM (consA (cM (.int 10000)) (consA (cM (.int 1000)) (nilA)))) (nilA))) (cM (.int 1024)))))))))
def m_law : MF := fnM 5 1 b_law

end K03
set_option Elab.async false
set_option linter.all false
set_option maxRecDepth 100000
namespace K03
open PySem PySem.Spec PyProof.Rows L2 Mv
def top (i : Nat) : Stmt := PySem.Challenge.pw_crestjoin_k03_errors_of_lots_and_bounds.main.body.getD i (.Pass ⟨0, 0, 0, 0⟩)
def d_cj_hat : He.DefD := ⟨("_law_cj_hat", none), "_law_cj_hat", "_law_cj_hat", defArgs (top 51), defBody (top 51), defScope (top 51), [], []⟩
theorem s_cj_hat : FnScope ["_law_script", "_law_spot", "_law_cell", "_law_great", "_law_seed"] ["_law_script", "_law_spot"] (defScope (top 51)) := ⟨rfl, rfl, rfl, by decide +kernel, rfl, by decide +kernel, by decide +kernel⟩
def d_cj_up : He.DefD := ⟨("_law_cj_up", none), "_law_cj_up", "_law_cj_up", defArgs (top 52), defBody (top 52), defScope (top 52), [], []⟩
theorem s_cj_up : FnScope ["_law_hat", "_law_total", "_law_found", "_law_one", "_law_two"] ["_law_hat", "_law_total"] (defScope (top 52)) := ⟨rfl, rfl, rfl, by decide +kernel, rfl, by decide +kernel, by decide +kernel⟩
def d_cj_turned : He.DefD := ⟨("_law_cj_turned", none), "_law_cj_turned", "_law_cj_turned", defArgs (top 53), defBody (top 53), defScope (top 53), [], []⟩
theorem s_cj_turned : FnScope ["_law_items", "_law_turn"] ["_law_items", "_law_turn"] (defScope (top 53)) := ⟨rfl, rfl, rfl, by decide +kernel, rfl, by decide +kernel, by decide +kernel⟩
def d_is_letter : He.DefD := ⟨("is_letter", none), "is_letter", "is_letter", defArgs (top 31), defBody (top 31), defScope (top 31), [], []⟩
theorem s_is_letter : FnScope ["value"] ["value"] (defScope (top 31)) := ⟨rfl, rfl, rfl, by decide +kernel, rfl, by decide +kernel, by decide +kernel⟩
def d_is_lot : He.DefD := ⟨("is_lot", none), "is_lot", "is_lot", defArgs (top 32), defBody (top 32), defScope (top 32), [], []⟩
theorem s_is_lot : FnScope ["value", "letter", "one", "other"] ["value"] (defScope (top 32)) := ⟨rfl, rfl, rfl, by decide +kernel, rfl, by decide +kernel, by decide +kernel⟩
def d_require_lot : He.DefD := ⟨("require_lot", none), "require_lot", "require_lot", defArgs (top 40), defBody (top 40), defScope (top 40), [], []⟩
theorem s_require_lot : FnScope ["value"] ["value"] (defScope (top 40)) := ⟨rfl, rfl, rfl, by decide +kernel, rfl, by decide +kernel, by decide +kernel⟩
def d_require_lots : He.DefD := ⟨("require_lots", none), "require_lots", "require_lots", defArgs (top 41), defBody (top 41), defScope (top 41), [], []⟩
theorem s_require_lots : FnScope ["one", "other"] ["one", "other"] (defScope (top 41)) := ⟨rfl, rfl, rfl, by decide +kernel, rfl, by decide +kernel, by decide +kernel⟩
def d_joined_in : He.DefD := ⟨("joined_in", none), "joined_in", "joined_in", defArgs (top 33), defBody (top 33), defScope (top 33), [], []⟩
theorem s_joined_in : FnScope ["one", "other", "letter"] ["one", "other"] (defScope (top 33)) := ⟨rfl, rfl, rfl, by decide +kernel, rfl, by decide +kernel, by decide +kernel⟩
def d_joined_lot : He.DefD := ⟨("joined_lot", none), "joined_lot", "joined_lot", defArgs (top 42), defBody (top 42), defScope (top 42), [], []⟩
theorem s_joined_lot : FnScope ["one", "other"] ["one", "other"] (defScope (top 42)) := ⟨rfl, rfl, rfl, by decide +kernel, rfl, by decide +kernel, by decide +kernel⟩
def d_common_in : He.DefD := ⟨("common_in", none), "common_in", "common_in", defArgs (top 34), defBody (top 34), defScope (top 34), [], []⟩
theorem s_common_in : FnScope ["one", "other", "letter"] ["one", "other"] (defScope (top 34)) := ⟨rfl, rfl, rfl, by decide +kernel, rfl, by decide +kernel, by decide +kernel⟩
def d_common_lot : He.DefD := ⟨("common_lot", none), "common_lot", "common_lot", defArgs (top 43), defBody (top 43), defScope (top 43), [], []⟩
theorem s_common_lot : FnScope ["one", "other"] ["one", "other"] (defScope (top 43)) := ⟨rfl, rfl, rfl, by decide +kernel, rfl, by decide +kernel, by decide +kernel⟩
def d_rest_in : He.DefD := ⟨("rest_in", none), "rest_in", "rest_in", defArgs (top 35), defBody (top 35), defScope (top 35), [], []⟩
theorem s_rest_in : FnScope ["one", "other", "letter"] ["one", "other"] (defScope (top 35)) := ⟨rfl, rfl, rfl, by decide +kernel, rfl, by decide +kernel, by decide +kernel⟩
def d_rest_lot : He.DefD := ⟨("rest_lot", none), "rest_lot", "rest_lot", defArgs (top 44), defBody (top 44), defScope (top 44), [], []⟩
theorem s_rest_lot : FnScope ["one", "other"] ["one", "other"] (defScope (top 44)) := ⟨rfl, rfl, rfl, by decide +kernel, rfl, by decide +kernel, by decide +kernel⟩
def d_within_in : He.DefD := ⟨("within_in", none), "within_in", "within_in", defArgs (top 36), defBody (top 36), defScope (top 36), [], []⟩
theorem s_within_in : FnScope ["one", "other", "letter"] ["one", "other"] (defScope (top 36)) := ⟨rfl, rfl, rfl, by decide +kernel, rfl, by decide +kernel, by decide +kernel⟩
def d_is_within : He.DefD := ⟨("is_within", none), "is_within", "is_within", defArgs (top 45), defBody (top 45), defScope (top 45), [], []⟩
theorem s_is_within : FnScope ["one", "other"] ["one", "other"] (defScope (top 45)) := ⟨rfl, rfl, rfl, by decide +kernel, rfl, by decide +kernel, by decide +kernel⟩
def d_are_beside : He.DefD := ⟨("are_beside", none), "are_beside", "are_beside", defArgs (top 37), defBody (top 37), defScope (top 37), [], []⟩
theorem s_are_beside : FnScope ["one", "other"] ["one", "other"] (defScope (top 37)) := ⟨rfl, rfl, rfl, by decide +kernel, rfl, by decide +kernel, by decide +kernel⟩
def d_are_apart : He.DefD := ⟨("are_apart", none), "are_apart", "are_apart", defArgs (top 47), defBody (top 47), defScope (top 47), [], []⟩
theorem s_are_apart : FnScope ["one", "other"] ["one", "other"] (defScope (top 47)) := ⟨rfl, rfl, rfl, by decide +kernel, rfl, by decide +kernel, by decide +kernel⟩
def d_lots_within_in : He.DefD := ⟨("lots_within_in", none), "lots_within_in", "lots_within_in", defArgs (top 38), defBody (top 38), defScope (top 38), [], []⟩
theorem s_lots_within_in : FnScope ["lot", "found", "letter", "one"] ["lot"] (defScope (top 38)) := ⟨rfl, rfl, rfl, by decide +kernel, rfl, by decide +kernel, by decide +kernel⟩
def d_lots_within : He.DefD := ⟨("lots_within", none), "lots_within", "lots_within", defArgs (top 48), defBody (top 48), defScope (top 48), [], []⟩
theorem s_lots_within : FnScope ["lot"] ["lot"] (defScope (top 48)) := ⟨rfl, rfl, rfl, by decide +kernel, rfl, by decide +kernel, by decide +kernel⟩
def d_all_letters : He.DefD := ⟨("all_letters", none), "all_letters", "all_letters", defArgs (top 39), defBody (top 39), defScope (top 39), [], []⟩
theorem s_all_letters : FnScope ["lots", "lot", "letter"] ["lots"] (defScope (top 39)) := ⟨rfl, rfl, rfl, by decide +kernel, rfl, by decide +kernel, by decide +kernel⟩
def d_lots_on : He.DefD := ⟨("lots_on", none), "lots_on", "lots_on", defArgs (top 49), defBody (top 49), defScope (top 49), [], []⟩
theorem s_lots_on : FnScope ["lots", "lot"] ["lots"] (defScope (top 49)) := ⟨rfl, rfl, rfl, by decide +kernel, rfl, by decide +kernel, by decide +kernel⟩
def d_is_whole : He.DefD := ⟨("is_whole", none), "is_whole", "is_whole", defArgs (top 11), defBody (top 11), defScope (top 11), [], []⟩
theorem s_is_whole : FnScope ["value"] ["value"] (defScope (top 11)) := ⟨rfl, rfl, rfl, by decide +kernel, rfl, by decide +kernel, by decide +kernel⟩
def d_is_integer : He.DefD := ⟨("is_integer", none), "is_integer", "is_integer", defArgs (top 12), defBody (top 12), defScope (top 12), [], []⟩
theorem s_is_integer : FnScope ["value"] ["value"] (defScope (top 12)) := ⟨rfl, rfl, rfl, by decide +kernel, rfl, by decide +kernel, by decide +kernel⟩
def d_require_number : He.DefD := ⟨("require_number", none), "require_number", "require_number", defArgs (top 23), defBody (top 23), defScope (top 23), [], []⟩
theorem s_require_number : FnScope ["value"] ["value"] (defScope (top 23)) := ⟨rfl, rfl, rfl, by decide +kernel, rfl, by decide +kernel, by decide +kernel⟩
def d_power_in : He.DefD := ⟨("power_in", none), "power_in", "power_in", defArgs (top 15), defBody (top 15), defScope (top 15), [], []⟩
theorem s_power_in : FnScope ["number"] ["number"] (defScope (top 15)) := ⟨rfl, rfl, rfl, by decide +kernel, rfl, by decide +kernel, by decide +kernel⟩
def d_power_for : He.DefD := ⟨("power_for", none), "power_for", "power_for", defArgs (top 24), defBody (top 24), defScope (top 24), [], []⟩
theorem s_power_for : FnScope ["number"] ["number"] (defScope (top 24)) := ⟨rfl, rfl, rfl, by decide +kernel, rfl, by decide +kernel, by decide +kernel⟩
def d_is_within_numbers : He.DefD := ⟨("is_within_numbers", none), "is_within", "is_within", defArgs (top 13), defBody (top 13), defScope (top 13), [], []⟩
theorem s_is_within_numbers : FnScope ["value", "least", "most"] ["value", "least", "most"] (defScope (top 13)) := ⟨rfl, rfl, rfl, by decide +kernel, rfl, by decide +kernel, by decide +kernel⟩
def d_is_bound : He.DefD := ⟨("is_bound", none), "is_bound", "is_bound", defArgs (top 21), defBody (top 21), defScope (top 21), [], []⟩
theorem s_is_bound : FnScope ["value"] ["value"] (defScope (top 21)) := ⟨rfl, rfl, rfl, by decide +kernel, rfl, by decide +kernel, by decide +kernel⟩
def d_require_bound : He.DefD := ⟨("require_bound", none), "require_bound", "require_bound", defArgs (top 22), defBody (top 22), defScope (top 22), [], []⟩
theorem s_require_bound : FnScope ["value"] ["value"] (defScope (top 22)) := ⟨rfl, rfl, rfl, by decide +kernel, rfl, by decide +kernel, by decide +kernel⟩
def d_raised : He.DefD := ⟨("raised", none), "raised", "raised", defArgs (top 16), defBody (top 16), defScope (top 16), [], []⟩
theorem s_raised : FnScope ["number", "times", "found", "square", "left"] ["number", "times"] (defScope (top 16)) := ⟨rfl, rfl, rfl, by decide +kernel, rfl, by decide +kernel, by decide +kernel⟩
def d_is_below_in : He.DefD := ⟨("is_below_in", none), "is_below_in", "is_below_in", defArgs (top 17), defBody (top 17), defScope (top 17), [], []⟩
theorem s_is_below_in : FnScope ["number", "bound"] ["number", "bound"] (defScope (top 17)) := ⟨rfl, rfl, rfl, by decide +kernel, rfl, by decide +kernel, by decide +kernel⟩
def d_is_below : He.DefD := ⟨("is_below", none), "is_below", "is_below", defArgs (top 25), defBody (top 25), defScope (top 25), [], []⟩
theorem s_is_below : FnScope ["number", "bound"] ["number", "bound"] (defScope (top 25)) := ⟨rfl, rfl, rfl, by decide +kernel, rfl, by decide +kernel, by decide +kernel⟩
def d_most_in : He.DefD := ⟨("most_in", none), "most_in", "most_in", defArgs (top 20), defBody (top 20), defScope (top 20), [], []⟩
theorem s_most_in : FnScope ["bound", "low", "high", "middle"] ["bound"] (defScope (top 20)) := ⟨rfl, rfl, rfl, by decide +kernel, rfl, by decide +kernel, by decide +kernel⟩
def d_most_within : He.DefD := ⟨("most_within", none), "most_within", "most_within", defArgs (top 28), defBody (top 28), defScope (top 28), [], []⟩
theorem s_most_within : FnScope ["bound"] ["bound"] (defScope (top 28)) := ⟨rfl, rfl, rfl, by decide +kernel, rfl, by decide +kernel, by decide +kernel⟩
def d_least_in : He.DefD := ⟨("least_in", none), "least_in", "least_in", defArgs (top 19), defBody (top 19), defScope (top 19), [], []⟩
theorem s_least_in : FnScope ["bound", "shared"] ["bound"] (defScope (top 19)) := ⟨rfl, rfl, rfl, by decide +kernel, rfl, by decide +kernel, by decide +kernel⟩
def d_least_terms : He.DefD := ⟨("least_terms", none), "least_terms", "least_terms", defArgs (top 27), defBody (top 27), defScope (top 27), [], []⟩
theorem s_least_terms : FnScope ["bound"] ["bound"] (defScope (top 27)) := ⟨rfl, rfl, rfl, by decide +kernel, rfl, by decide +kernel, by decide +kernel⟩
def d_compared_in : He.DefD := ⟨("compared_in", none), "compared_in", "compared_in", defArgs (top 18), defBody (top 18), defScope (top 18), [], []⟩
theorem s_compared_in : FnScope ["one", "other", "left", "right"] ["one", "other"] (defScope (top 18)) := ⟨rfl, rfl, rfl, by decide +kernel, rfl, by decide +kernel, by decide +kernel⟩
def d_compare_bounds : He.DefD := ⟨("compare_bounds", none), "compare_bounds", "compare_bounds", defArgs (top 26), defBody (top 26), defScope (top 26), [], []⟩
theorem s_compare_bounds : FnScope ["one", "other"] ["one", "other"] (defScope (top 26)) := ⟨rfl, rfl, rfl, by decide +kernel, rfl, by decide +kernel, by decide +kernel⟩
def d_right : He.DefD := ⟨("_law_right", none), "_law_right", "_law_right", defArgs (top 55), defBody (top 55), defScope (top 55), [], []⟩
theorem s_right : FnScope ["_law_turn", "_law_none", "_law_bad", "_law_odd", "_law_told", "_law_due", "_law_call"] ["_law_turn"] (defScope (top 55)) := ⟨rfl, rfl, rfl, by decide +kernel, rfl, by decide +kernel, by decide +kernel⟩
def d_law : He.DefD := ⟨("law", none), "law", "law", defArgs (top 56), defBody (top 56), defScope (top 56), [], []⟩
theorem s_law : FnScope ["_law_script", "_law_spot", "_law_shift", "_law_told", "_law_turn"] ["_law_script"] (defScope (top 56)) := ⟨rfl, rfl, rfl, by decide +kernel, rfl, by decide +kernel, by decide +kernel⟩
def d_met : He.DefD := ⟨("_law_met", none), "_law_met", "_law_met", defArgs (top 54), defBody (top 54), defScope (top 54), [], []⟩
theorem s_met : FnScope ["_law_call", "error"] ["_law_call"] (defScope (top 54)) := ⟨rfl, rfl, rfl, by decide +kernel, rfl, by decide +kernel, by decide +kernel⟩
def gx (K : PySem.W.Frag) : Gx := ⟨fun n => match n with | 0 => He.ga K "are_apart" | 1 => He.ga K "is_within" | 2 => He.ga K "rest_lot" | 3 => He.ga K "common_lot" | 4 => He.ga K "joined_lot" | 5 => He.ga K "InvalidLot" | 6 => He.ga K "InvalidOperation" | 7 => He.ga K "InvalidNumber" | 8 => (He.cT K ("_law_right", none)).2 | 9 => (He.cT K ("law", none)).2 | _ => 0, fun n => match n with | 7 => "given" | _ => ""⟩
def tf : List He.Defn := [("_law_right", none), ("law", none)]
def csK (K : PySem.W.Frag) : List (Addr × Addr) := tf.map (He.cT K)
def fileS : Str := "/claim/cut.py"
def q_InvalidNumber (n : Nat) : Pos := [⟨12, 8, 12, 13⟩, ⟨12, 8, 12, 15⟩, ⟨12, 8, 12, 24⟩, ⟨12, 25, 12, 30⟩, ⟨12, 8, 12, 31⟩, ⟨12, 8, 12, 31⟩, ⟨13, 8, 13, 12⟩, ⟨13, 8, 13, 18⟩, ⟨13, 21, 13, 26⟩, ⟨13, 8, 13, 26⟩].getD n ⟨0, 0, 0, 0⟩
theorem c_InvalidNumber : ∃ pl, CallsAs "given" q_InvalidNumber pl := ⟨_, fun _ => rfl⟩
theorem fo_InvalidNumber : FldOk "given" := ⟨by decide +kernel, by decide +kernel, by decide +kernel, by decide +kernel, by decide +kernel⟩
theorem b_InvalidNumber : BindsAs "given" q_InvalidNumber := fun _ _ _ _ _ _ _ _ _ _ _ => by first | rfl | with_unfolding_all rfl
def fa : List He.Fa := [.free "len", .free "min", .free "max", .free "range", .free "int", .free "abs", .glo "_law_cj_hat", .glo "_law_cj_up", .glo "_law_cj_turned", .glo "are_apart", .glo "rest_lot", .glo "common_lot", .glo "joined_lot", .free "tuple", .free "isinstance", .free "bool", .int "LETTERS" 6, .glo "is_letter", .free "all", .free "zip", .glo "is_lot", .glo "InvalidLot", .exc "InvalidLot", .glo "require_lot", .glo "require_lots", .free "sorted", .glo "joined_in", .glo "common_in", .glo "rest_in", .glo "within_in", .glo "are_beside", .glo "_law_met", .glo "lots_within_in", .glo "lots_within", .glo "InvalidOperation", .exc "InvalidOperation", .glo "all_letters", .glo "lots_on", .glo "is_whole", .int "BILLION" 1000000000, .glo "is_integer", .glo "InvalidNumber", .free "super", .glo "require_number", .glo "power_in", .glo "power_for", .int "PAIR" 2, .int "MOST_TOP" 10000, .glo "is_within_numbers", .int "MOST_BOTTOM" 1000, .glo "is_bound", .glo "require_bound", .glo "raised", .glo "is_below_in", .glo "is_below", .glo "most_in", .glo "most_within", .glo "least_in", .glo "least_terms", .glo "compared_in", .glo "compare_bounds", .free "repr", .glo "_law_right", .glo "law"]
def exs : List (PySem.W.Frag → Bool) := [fun K => aliB K "is_within_lots" "is_within", fun K => bltB K "gcd" "math.gcd", fun K => numB fileS K (He.ga K "InvalidNumber") "given" q_InvalidNumber, fun K => xfB K (He.ga K "InvalidNumber") && decide (PySem.W.findIn K (.ref (He.ga K "InvalidNumber")) "given" = some none), fun K => exmBs K (gx K).adr exmL, fun K => decide (((csK K).map (·.2)).Nodup)]
abbrev ex : PySem.W.Frag → Bool := exL exs
def fn : List He.DefD := [d_cj_hat, d_cj_up, d_cj_turned, d_is_letter, d_is_lot, d_require_lot, d_require_lots, d_joined_in, d_joined_lot, d_common_in, d_common_lot, d_rest_in, d_rest_lot, d_within_in, d_is_within, d_are_beside, d_are_apart, d_lots_within_in, d_lots_within, d_all_letters, d_lots_on, d_is_whole, d_is_integer, d_require_number, d_power_in, d_power_for, d_is_within_numbers, d_is_bound, d_require_bound, d_raised, d_is_below_in, d_is_below, d_most_in, d_most_within, d_least_in, d_least_terms, d_compared_in, d_compare_bounds, d_right, d_law, d_met]
abbrev HyL := Hy fa fn ex
section
variable {P : Program} {w : World} {K : PySem.W.Frag} {mg : Str → Option Value}
theorem n_InvalidNumber (y : HyL K mg) (pg : PgOk P fileS) : NumX P K (He.ga K "InvalidNumber") "given" q_InvalidNumber := numB_ok pg (exL_at y.x 2 rfl)
theorem x_InvalidNumber (y : HyL K mg) : XfC K (He.ga K "InvalidNumber") ∧ PySem.W.findIn K (.ref (He.ga K "InvalidNumber")) "given" = some none := by
  obtain ⟨a, b⟩ := Bool.and_eq_true_iff.mp (exL_at y.x 3 rfl)
  exact ⟨xfB_ok a, of_decide_eq_true b⟩
theorem u_met {k : Nat} {A : Around} (r : Room k A) : A.units + 100 < cLine := by have := r.un; omega
theorem h_met (y : HyL K mg) {base : Heap} {A : Around} {stack : List Env} {cdg : Value} {s : Shared} {H : Hp} (hgd : A.guards = some []) (hu : A.units + 100 < cLine) : HdR (cxOf C8.CX0 P w K mg base ["_law_call", "error"] "_law_met" (defScope (top 54)) (He.ga K "_law_met") cdg A stack s H C8.E0).nox (hsOf (defBody (top 54))) (hlOf K (gx K) hs_met) :=
  .plain ⟨rfl, by decide, .inl (y.glo 21)⟩ (fun _ _ _ _ _ _ _ => hd_txt) (.plain ⟨rfl, by decide, .inl (y.glo 34)⟩ (fun _ _ _ _ _ _ _ => hd_txt) (.named (i := 1) ⟨rfl, by decide, .inl (y.glo 41)⟩ rfl rfl (fun _ _ _ _ _ hz hf => hd_rep hgd (show A.units + 3 + 64 < cLine by omega) (x_InvalidNumber y).1 (x_InvalidNumber y).2 hz hf rfl rfl (y.free 61)) (.nil)))
theorem w_cj_hat (y : HyL K mg) (pg : PgOk P fileS)  : OkF P w K mg (gx K) 3 (He.ga K "_law_cj_hat") ["_law_script", "_law_spot"] m_cj_hat := by
  obtain ⟨fd, F⟩ := y.c.def_ 0 (d := d_cj_hat) rfl
  refine ⟨fd, fun base => fn_ok F s_cj_hat rfl rfl fun cdv A outer s H E hr => ?_, F.bindsN fun _ _ _ _ _ _ us hl => match us, hl with | [_, _], _ => rfl, F.kp, F.bindsA fun _ _ _ _ _ _ us hl => match us, hl with | [_, _], _ => rfl⟩
  have tk : Takes (cxOf (L2.CX P w) P w K mg base ["_law_script", "_law_spot", "_law_cell", "_law_great", "_law_seed"] "_law_cj_hat" (defScope (top 51)) (He.ga K "_law_cj_hat") cdv A outer s H E) (WK E) := takes_of rfl rfl rfl rfl
  have nd := s_cj_hat.nd
  exact rss_cons (rs_set 2 nd (re_if (rt_cmp op_lt cmpS (re_var 1) (re_callB call_len lenS rfl (y.free 0) boot_len (ra_cons (re_var 0) (ra_nil)))) (re_callTy call_int1 intFS rfl (y.free 4) boot_int (ra_cons (re_ix (re_var 0) (re_var 1)) (ra_nil))) (re_op op_addA addS (re_op op_mulA mulS (re_int) (re_var 1)) (re_int)))) (rss_cons (rs_set 3 nd (re_op op_mod modS (re_callTy call_int1 intFS rfl (y.free 4) boot_int (ra_cons (re_callB call_abs absS rfl (y.free 5) boot_abs (ra_cons (re_var 2) (ra_nil))) (ra_nil))) (re_op op_powA powS (re_op op_powA powS (re_int) (re_int)) (re_int)))) (rss_cons (rs_set 4 nd (re_callTy call_int1 intFS rfl (y.free 4) boot_int (ra_cons (re_op op_addA addS (re_op op_addA addS (re_op op_addA addS (re_op op_mulA mulS (re_op op_mod modS (re_var 3) (re_int)) (re_int)) (re_op op_mulA mulS (re_int) (re_var 1))) (re_op op_mulA mulS (re_int) (re_callTy call_int1 intFS rfl (y.free 4) boot_int (ra_cons (re_cmp op_lt cmpS (re_var 2) (re_int)) (ra_nil))))) (re_int)) (ra_nil)))) (rss_one (rs_retV (re_new (ra_cons (re_callB (call_max2 rfl) int2S rfl (y.free 2) boot_max (ra_cons (re_int) (ra_cons (re_op op_subA subS (re_var 3) (re_op op_powA powS (re_int) (re_int))) (ra_nil)))) (ra_cons (re_op op_mod modS (re_var 4) (re_int)) (ra_cons (re_int) (ra_nil)))))))))

theorem w_cj_up (y : HyL K mg) (pg : PgOk P fileS)  : OkF P w K mg (gx K) 3 (He.ga K "_law_cj_up") ["_law_hat", "_law_total"] m_cj_up := by
  obtain ⟨fd, F⟩ := y.c.def_ 1 (d := d_cj_up) rfl
  refine ⟨fd, fun base => fn_ok F s_cj_up rfl rfl fun cdv A outer s H E hr => ?_, F.bindsN fun _ _ _ _ _ _ us hl => match us, hl with | [_, _], _ => rfl, F.kp, F.bindsA fun _ _ _ _ _ _ us hl => match us, hl with | [_, _], _ => rfl⟩
  have tk : Takes (cxOf (L2.CX P w) P w K mg base ["_law_hat", "_law_total", "_law_found", "_law_one", "_law_two"] "_law_cj_up" (defScope (top 52)) (He.ga K "_law_cj_up") cdv A outer s H E) (WK E) := takes_of rfl rfl rfl rfl
  have nd := s_cj_up.nd
  exact rss_cons (rs_if (rt_cmp op_gt cmpS (re_ix (re_var 0) (re_int)) (re_int)) (rss_cons (rs_set 2 nd (re_op op_mod modS (re_callTy call_int1 intFS rfl (y.free 4) boot_int (ra_cons (re_ix (re_var 0) (re_int)) (ra_nil))) (re_var 1))) (rss_cons (rs_setIx (re_op op_fdivA fdivS (re_ix (re_var 0) (re_int)) (re_var 1)) (re_var 0) (re_int)) (rss_one (rs_retV (re_var 2))))) (rss_nil)) (rss_cons (rs_setIx (re_op op_addA addS (re_ix (re_var 0) (re_int)) (re_int)) (re_var 0) (re_int)) (rss_cons (rs_set 3 nd (re_op op_mod modS (re_callTy call_int1 intFS rfl (y.free 4) boot_int (ra_cons (re_op op_addA addS (re_ix (re_var 0) (re_int)) (re_op op_mulA mulS (re_int) (re_ix (re_var 0) (re_int)))) (ra_nil))) (re_int))) (rss_cons (rs_set 4 nd (re_op op_addA addS (re_op op_addA addS (re_op op_mulA mulS (re_op op_mod modS (re_callTy call_int1 intFS rfl (y.free 4) boot_int (ra_cons (re_op op_addA addS (re_op op_mulA mulS (re_var 3) (re_var 3)) (re_int)) (ra_nil))) (re_int)) (re_int)) (re_var 3)) (re_op op_mulA mulS (re_int) (re_ix (re_var 0) (re_int))))) (rss_one (rs_retV (re_op op_mod modS (re_callTy call_int1 intFS rfl (y.free 4) boot_int (ra_cons (re_op op_fdivA fdivS (re_var 4) (re_int)) (ra_nil))) (re_var 1)))))))

theorem w_cj_turned (y : HyL K mg) (pg : PgOk P fileS)  : OkF P w K mg (gx K) 3 (He.ga K "_law_cj_turned") ["_law_items", "_law_turn"] m_cj_turned := by
  obtain ⟨fd, F⟩ := y.c.def_ 2 (d := d_cj_turned) rfl
  refine ⟨fd, fun base => fn_ok F s_cj_turned rfl rfl fun cdv A outer s H E hr => ?_, F.bindsN fun _ _ _ _ _ _ us hl => match us, hl with | [_, _], _ => rfl, F.kp, F.bindsA fun _ _ _ _ _ _ us hl => match us, hl with | [_, _], _ => rfl⟩
  have tk : Takes (cxOf (L2.CX P w) P w K mg base ["_law_items", "_law_turn"] "_law_cj_turned" (defScope (top 53)) (He.ga K "_law_cj_turned") cdv A outer s H E) (WK E) := takes_of rfl rfl rfl rfl
  have nd := s_cj_turned.nd
  exact rss_one (rs_retV (re_ix (re_var 0) (re_op op_mod modS (re_callTy call_int1 intFS rfl (y.free 4) boot_int (ra_cons (re_var 1) (ra_nil))) (re_callB call_len lenS rfl (y.free 0) boot_len (ra_cons (re_var 0) (ra_nil))))))

theorem w_is_letter (y : HyL K mg) (pg : PgOk P fileS)  : OkF P w K mg (gx K) 3 (He.ga K "is_letter") ["value"] m_is_letter := by
  obtain ⟨fd, F⟩ := y.c.def_ 3 (d := d_is_letter) rfl
  refine ⟨fd, fun base => fn_ok F s_is_letter rfl rfl fun cdv A outer s H E hr => ?_, F.bindsN fun _ _ _ _ _ _ us hl => match us, hl with | [_], _ => rfl, F.kp, F.bindsA fun _ _ _ _ _ _ us hl => match us, hl with | [_], _ => rfl⟩
  have tk : Takes (cxOf (L2.CX P w) P w K mg base ["value"] "is_letter" (defScope (top 31)) (He.ga K "is_letter") cdv A outer s H E) (WK E) := takes_of rfl rfl rfl rfl
  have nd := s_is_letter.nd
  exact rss_one (rs_retV (re_and (re_callB call_isi isiS rfl (y.free 14) boot_isinstance (ra_cons (re_var 0) (ra_cons (re_ty .int rfl (y.free 4) boot_int) (ra_nil)))) (re_and (re_not (re_callB call_isi isiS rfl (y.free 14) boot_isinstance (ra_cons (re_var 0) (ra_cons (re_ty .bool rfl (y.free 15) boot_bool) (ra_nil))))) (re_one (re_chain op_le cmpS op_lt cmpS rI0_mono (re_int) (re_var 0) (re_gint rfl (y.int 16)))))))

theorem w_is_lot (y : HyL K mg) (pg : PgOk P fileS) (o_is_letter : OkF P w K mg (gx K) 3 (He.ga K "is_letter") ["value"] m_is_letter) : OkF P w K mg (gx K) 4 (He.ga K "is_lot") ["value"] m_is_lot := by
  obtain ⟨fd, F⟩ := y.c.def_ 4 (d := d_is_lot) rfl
  refine ⟨fd, fun base => fn_ok F s_is_lot rfl rfl fun cdv A outer s H E hr => ?_, F.bindsN fun _ _ _ _ _ _ us hl => match us, hl with | [_], _ => rfl, F.kp, F.bindsA fun _ _ _ _ _ _ us hl => match us, hl with | [_], _ => rfl⟩
  have tk : Takes (cxOf (L2.CX P w) P w K mg base ["value", "letter", "one", "other"] "is_lot" (defScope (top 32)) (He.ga K "is_lot") cdv A outer s H E) (WK E) := takes_of rfl rfl rfl rfl
  have nd := s_is_lot.nd
  exact rss_cons (rs_if (rt_w (rw_or (rt_not (rt_val (re_callB call_isi isiS rfl (y.free 14) boot_isinstance (ra_cons (re_var 0) (ra_cons (re_ty .tuple rfl (y.free 13) boot_tuple) (ra_nil)))))) (rw_or1 (rt_not (rt_val (re_callB (cr_all rfl) allS rfl (y.free 18) boot_all (ra_cons (re_lc (own := [("letter", 1)]) rfl nd (ri_seq (re_var 0)) (blkOk_by (by kernel_rfl)) (inis_name 1) (by decide) (fun _ _ _ _ _ => rg_name 1 nd) (fun _ _ _ _ _ => rts_nil) (fun _ _ _ _ _ => re_callO o_is_letter hr (y.glo 17) takes0 (ra_cons (re_var 1) (ra_nil)))) (ra_nil)))))))) (rss_one (rs_retV (re_bl))) (rss_nil)) (rss_one (rs_retV (re_callB (cr_all rfl) allS rfl (y.free 18) boot_all (ra_cons (re_lc (own := [("one", 2), ("other", 3)]) rfl nd (ri_zip rfl (y.free 19) (ra_cons (re_var 0) (ra_cons (re_slice (re_var 0) (ro_some (re_int)) (ro_none)) (ra_nil)))) (blkOk_by (by kernel_rfl)) (inis_tup (iniss_cons (inis_name 2) (iniss_cons (inis_name 3) (iniss_nil)))) (by decide) (fun _ _ _ _ _ => rg_tup (n := 2) rfl (rgs_cons (rg_name 2 nd) (rgs_cons (rg_name 3 nd) (rgs_nil))) (consG_len (consG_len (nilG_len)))) (fun _ _ _ _ _ => rts_nil) (fun _ _ _ _ _ => re_cmp op_lt cmpS (re_var 2) (re_var 3))) (ra_nil)))))

theorem w_require_lot (y : HyL K mg) (pg : PgOk P fileS) (o_is_lot : OkF P w K mg (gx K) 4 (He.ga K "is_lot") ["value"] m_is_lot) : OkF P w K mg (gx K) 5 (He.ga K "require_lot") ["value"] m_require_lot := by
  obtain ⟨fd, F⟩ := y.c.def_ 5 (d := d_require_lot) rfl
  refine ⟨fd, fun base => fn_ok F s_require_lot rfl rfl fun cdv A outer s H E hr => ?_, F.bindsN fun _ _ _ _ _ _ us hl => match us, hl with | [_], _ => rfl, F.kp, F.bindsA fun _ _ _ _ _ _ us hl => match us, hl with | [_], _ => rfl⟩
  have tk : Takes (cxOf (L2.CX P w) P w K mg base ["value"] "require_lot" (defScope (top 40)) (He.ga K "require_lot") cdv A outer s H E) (WK E) := takes_of rfl rfl rfl rfl
  have nd := s_require_lot.nd
  exact rss_one (rs_if (rt_not (rt_val (re_callO o_is_lot hr (y.glo 20) tk (ra_cons (re_var 0) (ra_nil))))) (rss_one (rs_raise (c := 5) rfl tk (y.err 22) (y.glo 21))) (rss_nil))

theorem w_require_lots (y : HyL K mg) (pg : PgOk P fileS) (o_require_lot : OkF P w K mg (gx K) 5 (He.ga K "require_lot") ["value"] m_require_lot) : OkF P w K mg (gx K) 6 (He.ga K "require_lots") ["one", "other"] m_require_lots := by
  obtain ⟨fd, F⟩ := y.c.def_ 6 (d := d_require_lots) rfl
  refine ⟨fd, fun base => fn_ok F s_require_lots rfl rfl fun cdv A outer s H E hr => ?_, F.bindsN fun _ _ _ _ _ _ us hl => match us, hl with | [_, _], _ => rfl, F.kp, F.bindsA fun _ _ _ _ _ _ us hl => match us, hl with | [_, _], _ => rfl⟩
  have tk : Takes (cxOf (L2.CX P w) P w K mg base ["one", "other"] "require_lots" (defScope (top 41)) (He.ga K "require_lots") cdv A outer s H E) (WK E) := takes_of rfl rfl rfl rfl
  have nd := s_require_lots.nd
  exact rss_cons (rs_expr (re_callO o_require_lot hr (y.glo 23) tk (ra_cons (re_var 0) (ra_nil)))) (rss_one (rs_expr (re_callO o_require_lot hr (y.glo 23) tk (ra_cons (re_var 1) (ra_nil)))))

theorem w_joined_in (y : HyL K mg) (pg : PgOk P fileS)  : OkF P w K mg (gx K) 3 (He.ga K "joined_in") ["one", "other"] m_joined_in := by
  obtain ⟨fd, F⟩ := y.c.def_ 7 (d := d_joined_in) rfl
  refine ⟨fd, fun base => fn_ok F s_joined_in rfl rfl fun cdv A outer s H E hr => ?_, F.bindsN fun _ _ _ _ _ _ us hl => match us, hl with | [_, _], _ => rfl, F.kp, F.bindsA fun _ _ _ _ _ _ us hl => match us, hl with | [_, _], _ => rfl⟩
  have tk : Takes (cxOf (L2.CX P w) P w K mg base ["one", "other", "letter"] "joined_in" (defScope (top 33)) (He.ga K "joined_in") cdv A outer s H E) (WK E) := takes_of rfl rfl rfl rfl
  have nd := s_joined_in.nd
  exact rss_one (rs_retV (re_callTy call_tuple_of tupleS rfl (y.free 13) boot_tuple (ra_cons (re_callB (call_sortedDI rfl) sortedDS rfl (y.free 25) boot_sorted (ra_cons (re_dc (own := [("letter", 2)]) rfl nd (ri_seq (re_lst (ra_star (re_var 0) (ra_star (re_var 1) (ra_nil))))) (blkOk_by (by kernel_rfl)) (inis_name 2) (by decide) (fun _ _ _ _ _ => rg_name 2 nd) (fun _ _ _ _ _ => rts_nil) (fun _ _ _ _ _ => re_var 2) (fun _ _ _ _ _ => re_bl)) (ra_nil))) (ra_nil))))

theorem w_joined_lot (y : HyL K mg) (pg : PgOk P fileS) (o_require_lots : OkF P w K mg (gx K) 6 (He.ga K "require_lots") ["one", "other"] m_require_lots) (o_joined_in : OkF P w K mg (gx K) 3 (He.ga K "joined_in") ["one", "other"] m_joined_in) : OkF P w K mg (gx K) 7 (He.ga K "joined_lot") ["one", "other"] m_joined_lot := by
  obtain ⟨fd, F⟩ := y.c.def_ 8 (d := d_joined_lot) rfl
  refine ⟨fd, fun base => fn_ok F s_joined_lot rfl rfl fun cdv A outer s H E hr => ?_, F.bindsN fun _ _ _ _ _ _ us hl => match us, hl with | [_, _], _ => rfl, F.kp, F.bindsA fun _ _ _ _ _ _ us hl => match us, hl with | [_, _], _ => rfl⟩
  have tk : Takes (cxOf (L2.CX P w) P w K mg base ["one", "other"] "joined_lot" (defScope (top 42)) (He.ga K "joined_lot") cdv A outer s H E) (WK E) := takes_of rfl rfl rfl rfl
  have nd := s_joined_lot.nd
  exact rss_cons (rs_expr (re_callO o_require_lots hr (y.glo 24) tk (ra_cons (re_var 0) (ra_cons (re_var 1) (ra_nil))))) (rss_one (rs_retV (re_callO o_joined_in hr (y.glo 26) tk (ra_cons (re_var 0) (ra_cons (re_var 1) (ra_nil))))))

theorem w_common_in (y : HyL K mg) (pg : PgOk P fileS)  : OkF P w K mg (gx K) 3 (He.ga K "common_in") ["one", "other"] m_common_in := by
  obtain ⟨fd, F⟩ := y.c.def_ 9 (d := d_common_in) rfl
  refine ⟨fd, fun base => fn_ok F s_common_in rfl rfl fun cdv A outer s H E hr => ?_, F.bindsN fun _ _ _ _ _ _ us hl => match us, hl with | [_, _], _ => rfl, F.kp, F.bindsA fun _ _ _ _ _ _ us hl => match us, hl with | [_, _], _ => rfl⟩
  have tk : Takes (cxOf (L2.CX P w) P w K mg base ["one", "other", "letter"] "common_in" (defScope (top 34)) (He.ga K "common_in") cdv A outer s H E) (WK E) := takes_of rfl rfl rfl rfl
  have nd := s_common_in.nd
  exact rss_one (rs_retV (re_callTy call_tuple_of tupleS rfl (y.free 13) boot_tuple (ra_cons (re_lc (own := [("letter", 2)]) rfl nd (ri_seq (re_var 0)) (blkOk_by (by kernel_rfl)) (inis_name 2) (by decide) (fun _ _ _ _ _ => rg_name 2 nd) (fun _ _ _ _ _ => rts_one (rt_cmp op_in_seq inS (re_var 2) (re_var 1))) (fun _ _ _ _ _ => re_var 2)) (ra_nil))))

theorem w_common_lot (y : HyL K mg) (pg : PgOk P fileS) (o_require_lots : OkF P w K mg (gx K) 6 (He.ga K "require_lots") ["one", "other"] m_require_lots) (o_common_in : OkF P w K mg (gx K) 3 (He.ga K "common_in") ["one", "other"] m_common_in) : OkF P w K mg (gx K) 7 (He.ga K "common_lot") ["one", "other"] m_common_lot := by
  obtain ⟨fd, F⟩ := y.c.def_ 10 (d := d_common_lot) rfl
  refine ⟨fd, fun base => fn_ok F s_common_lot rfl rfl fun cdv A outer s H E hr => ?_, F.bindsN fun _ _ _ _ _ _ us hl => match us, hl with | [_, _], _ => rfl, F.kp, F.bindsA fun _ _ _ _ _ _ us hl => match us, hl with | [_, _], _ => rfl⟩
  have tk : Takes (cxOf (L2.CX P w) P w K mg base ["one", "other"] "common_lot" (defScope (top 43)) (He.ga K "common_lot") cdv A outer s H E) (WK E) := takes_of rfl rfl rfl rfl
  have nd := s_common_lot.nd
  exact rss_cons (rs_expr (re_callO o_require_lots hr (y.glo 24) tk (ra_cons (re_var 0) (ra_cons (re_var 1) (ra_nil))))) (rss_one (rs_retV (re_callO o_common_in hr (y.glo 27) tk (ra_cons (re_var 0) (ra_cons (re_var 1) (ra_nil))))))

theorem w_rest_in (y : HyL K mg) (pg : PgOk P fileS)  : OkF P w K mg (gx K) 3 (He.ga K "rest_in") ["one", "other"] m_rest_in := by
  obtain ⟨fd, F⟩ := y.c.def_ 11 (d := d_rest_in) rfl
  refine ⟨fd, fun base => fn_ok F s_rest_in rfl rfl fun cdv A outer s H E hr => ?_, F.bindsN fun _ _ _ _ _ _ us hl => match us, hl with | [_, _], _ => rfl, F.kp, F.bindsA fun _ _ _ _ _ _ us hl => match us, hl with | [_, _], _ => rfl⟩
  have tk : Takes (cxOf (L2.CX P w) P w K mg base ["one", "other", "letter"] "rest_in" (defScope (top 35)) (He.ga K "rest_in") cdv A outer s H E) (WK E) := takes_of rfl rfl rfl rfl
  have nd := s_rest_in.nd
  exact rss_one (rs_retV (re_callTy call_tuple_of tupleS rfl (y.free 13) boot_tuple (ra_cons (re_lc (own := [("letter", 2)]) rfl nd (ri_seq (re_var 0)) (blkOk_by (by kernel_rfl)) (inis_name 2) (by decide) (fun _ _ _ _ _ => rg_name 2 nd) (fun _ _ _ _ _ => rts_one (rt_cmp op_notIn_seq inS (re_var 2) (re_var 1))) (fun _ _ _ _ _ => re_var 2)) (ra_nil))))

theorem w_rest_lot (y : HyL K mg) (pg : PgOk P fileS) (o_require_lots : OkF P w K mg (gx K) 6 (He.ga K "require_lots") ["one", "other"] m_require_lots) (o_rest_in : OkF P w K mg (gx K) 3 (He.ga K "rest_in") ["one", "other"] m_rest_in) : OkF P w K mg (gx K) 7 (He.ga K "rest_lot") ["one", "other"] m_rest_lot := by
  obtain ⟨fd, F⟩ := y.c.def_ 12 (d := d_rest_lot) rfl
  refine ⟨fd, fun base => fn_ok F s_rest_lot rfl rfl fun cdv A outer s H E hr => ?_, F.bindsN fun _ _ _ _ _ _ us hl => match us, hl with | [_, _], _ => rfl, F.kp, F.bindsA fun _ _ _ _ _ _ us hl => match us, hl with | [_, _], _ => rfl⟩
  have tk : Takes (cxOf (L2.CX P w) P w K mg base ["one", "other"] "rest_lot" (defScope (top 44)) (He.ga K "rest_lot") cdv A outer s H E) (WK E) := takes_of rfl rfl rfl rfl
  have nd := s_rest_lot.nd
  exact rss_cons (rs_expr (re_callO o_require_lots hr (y.glo 24) tk (ra_cons (re_var 0) (ra_cons (re_var 1) (ra_nil))))) (rss_one (rs_retV (re_callO o_rest_in hr (y.glo 28) tk (ra_cons (re_var 0) (ra_cons (re_var 1) (ra_nil))))))

theorem w_within_in (y : HyL K mg) (pg : PgOk P fileS)  : OkF P w K mg (gx K) 3 (He.ga K "within_in") ["one", "other"] m_within_in := by
  obtain ⟨fd, F⟩ := y.c.def_ 13 (d := d_within_in) rfl
  refine ⟨fd, fun base => fn_ok F s_within_in rfl rfl fun cdv A outer s H E hr => ?_, F.bindsN fun _ _ _ _ _ _ us hl => match us, hl with | [_, _], _ => rfl, F.kp, F.bindsA fun _ _ _ _ _ _ us hl => match us, hl with | [_, _], _ => rfl⟩
  have tk : Takes (cxOf (L2.CX P w) P w K mg base ["one", "other", "letter"] "within_in" (defScope (top 36)) (He.ga K "within_in") cdv A outer s H E) (WK E) := takes_of rfl rfl rfl rfl
  have nd := s_within_in.nd
  exact rss_one (rs_retV (re_callB (cr_all rfl) allS rfl (y.free 18) boot_all (ra_cons (re_lc (own := [("letter", 2)]) rfl nd (ri_seq (re_var 0)) (blkOk_by (by kernel_rfl)) (inis_name 2) (by decide) (fun _ _ _ _ _ => rg_name 2 nd) (fun _ _ _ _ _ => rts_nil) (fun _ _ _ _ _ => re_cmp op_in_seq inS (re_var 2) (re_var 1))) (ra_nil))))

theorem w_is_within (y : HyL K mg) (pg : PgOk P fileS) (o_require_lots : OkF P w K mg (gx K) 6 (He.ga K "require_lots") ["one", "other"] m_require_lots) (o_within_in : OkF P w K mg (gx K) 3 (He.ga K "within_in") ["one", "other"] m_within_in) : OkF P w K mg (gx K) 7 (He.ga K "is_within") ["one", "other"] m_is_within := by
  obtain ⟨fd, F⟩ := y.c.def_ 14 (d := d_is_within) rfl
  refine ⟨fd, fun base => fn_ok F s_is_within rfl rfl fun cdv A outer s H E hr => ?_, F.bindsN fun _ _ _ _ _ _ us hl => match us, hl with | [_, _], _ => rfl, F.kp, F.bindsA fun _ _ _ _ _ _ us hl => match us, hl with | [_, _], _ => rfl⟩
  have tk : Takes (cxOf (L2.CX P w) P w K mg base ["one", "other"] "is_within" (defScope (top 45)) (He.ga K "is_within") cdv A outer s H E) (WK E) := takes_of rfl rfl rfl rfl
  have nd := s_is_within.nd
  exact rss_cons (rs_expr (re_callO o_require_lots hr (y.glo 24) tk (ra_cons (re_var 0) (ra_cons (re_var 1) (ra_nil))))) (rss_one (rs_retV (re_callO o_within_in hr (y.glo 29) tk (ra_cons (re_var 0) (ra_cons (re_var 1) (ra_nil))))))

theorem w_are_beside (y : HyL K mg) (pg : PgOk P fileS) (o_within_in : OkF P w K mg (gx K) 3 (He.ga K "within_in") ["one", "other"] m_within_in) : OkF P w K mg (gx K) 4 (He.ga K "are_beside") ["one", "other"] m_are_beside := by
  obtain ⟨fd, F⟩ := y.c.def_ 15 (d := d_are_beside) rfl
  refine ⟨fd, fun base => fn_ok F s_are_beside rfl rfl fun cdv A outer s H E hr => ?_, F.bindsN fun _ _ _ _ _ _ us hl => match us, hl with | [_, _], _ => rfl, F.kp, F.bindsA fun _ _ _ _ _ _ us hl => match us, hl with | [_, _], _ => rfl⟩
  have tk : Takes (cxOf (L2.CX P w) P w K mg base ["one", "other"] "are_beside" (defScope (top 37)) (He.ga K "are_beside") cdv A outer s H E) (WK E) := takes_of rfl rfl rfl rfl
  have nd := s_are_beside.nd
  exact rss_one (rs_retV (re_and (re_not (re_callO o_within_in hr (y.glo 29) tk (ra_cons (re_var 0) (ra_cons (re_var 1) (ra_nil))))) (re_one (re_not (re_callO o_within_in hr (y.glo 29) tk (ra_cons (re_var 1) (ra_cons (re_var 0) (ra_nil))))))))

theorem w_are_apart (y : HyL K mg) (pg : PgOk P fileS) (o_require_lots : OkF P w K mg (gx K) 6 (He.ga K "require_lots") ["one", "other"] m_require_lots) (o_are_beside : OkF P w K mg (gx K) 4 (He.ga K "are_beside") ["one", "other"] m_are_beside) : OkF P w K mg (gx K) 7 (He.ga K "are_apart") ["one", "other"] m_are_apart := by
  obtain ⟨fd, F⟩ := y.c.def_ 16 (d := d_are_apart) rfl
  refine ⟨fd, fun base => fn_ok F s_are_apart rfl rfl fun cdv A outer s H E hr => ?_, F.bindsN fun _ _ _ _ _ _ us hl => match us, hl with | [_, _], _ => rfl, F.kp, F.bindsA fun _ _ _ _ _ _ us hl => match us, hl with | [_, _], _ => rfl⟩
  have tk : Takes (cxOf (L2.CX P w) P w K mg base ["one", "other"] "are_apart" (defScope (top 47)) (He.ga K "are_apart") cdv A outer s H E) (WK E) := takes_of rfl rfl rfl rfl
  have nd := s_are_apart.nd
  exact rss_cons (rs_expr (re_callO o_require_lots hr (y.glo 24) tk (ra_cons (re_var 0) (ra_cons (re_var 1) (ra_nil))))) (rss_one (rs_retV (re_callO o_are_beside hr (y.glo 30) tk (ra_cons (re_var 0) (ra_cons (re_var 1) (ra_nil))))))

theorem w_lots_within_in (y : HyL K mg) (pg : PgOk P fileS)  : OkF P w K mg (gx K) 3 (He.ga K "lots_within_in") ["lot"] m_lots_within_in := by
  obtain ⟨fd, F⟩ := y.c.def_ 17 (d := d_lots_within_in) rfl
  refine ⟨fd, fun base => fn_ok F s_lots_within_in rfl rfl fun cdv A outer s H E hr => ?_, F.bindsN fun _ _ _ _ _ _ us hl => match us, hl with | [_], _ => rfl, F.kp, F.bindsA fun _ _ _ _ _ _ us hl => match us, hl with | [_], _ => rfl⟩
  have tk : Takes (cxOf (L2.CX P w) P w K mg base ["lot", "found", "letter", "one"] "lots_within_in" (defScope (top 38)) (He.ga K "lots_within_in") cdv A outer s H E) (WK E) := takes_of rfl rfl rfl rfl
  have nd := s_lots_within_in.nd
  exact rss_cons (rs_own 1 nd (ra_cons (re_tup (ra_nil)) (ra_nil))) (rss_cons (rs_for (passes_of rfl) rfl (ri_seq (re_var 0)) (rg_name 2 nd) (rss_one (rs_ext 1 (ra_cons (re_lc (own := [("one", 3)]) rfl nd (ri_seq (re_var 1)) (blkOk_by (by kernel_rfl)) (inis_name 3) (by decide) (fun _ _ _ _ _ => rg_name 3 nd) (fun _ _ _ _ _ => rts_nil) (fun _ _ _ _ _ => re_tup (ra_star (re_var 3) (ra_cons (re_var 2) (ra_nil))))) (ra_nil))))) (rss_one (rs_retF (re_callB (cr_sortedL (Room.u64 hr)) sortedLS rfl (y.free 25) boot_sorted (ra_cons (re_var 1) (ra_nil))))))

theorem w_lots_within (y : HyL K mg) (pg : PgOk P fileS) (o_require_lot : OkF P w K mg (gx K) 5 (He.ga K "require_lot") ["value"] m_require_lot) (o_lots_within_in : OkF P w K mg (gx K) 3 (He.ga K "lots_within_in") ["lot"] m_lots_within_in) : OkF P w K mg (gx K) 6 (He.ga K "lots_within") ["lot"] m_lots_within := by
  obtain ⟨fd, F⟩ := y.c.def_ 18 (d := d_lots_within) rfl
  refine ⟨fd, fun base => fn_ok F s_lots_within rfl rfl fun cdv A outer s H E hr => ?_, F.bindsN fun _ _ _ _ _ _ us hl => match us, hl with | [_], _ => rfl, F.kp, F.bindsA fun _ _ _ _ _ _ us hl => match us, hl with | [_], _ => rfl⟩
  have tk : Takes (cxOf (L2.CX P w) P w K mg base ["lot"] "lots_within" (defScope (top 48)) (He.ga K "lots_within") cdv A outer s H E) (WK E) := takes_of rfl rfl rfl rfl
  have nd := s_lots_within.nd
  exact rss_cons (rs_expr (re_callO o_require_lot hr (y.glo 23) tk (ra_cons (re_var 0) (ra_nil)))) (rss_one (rs_retV (re_callTy call_tuple_of tupleS rfl (y.free 13) boot_tuple (ra_cons (re_callO o_lots_within_in hr (y.glo 32) tk (ra_cons (re_var 0) (ra_nil))) (ra_nil)))))

theorem w_all_letters (y : HyL K mg) (pg : PgOk P fileS)  : OkF P w K mg (gx K) 3 (He.ga K "all_letters") ["lots"] m_all_letters := by
  obtain ⟨fd, F⟩ := y.c.def_ 19 (d := d_all_letters) rfl
  refine ⟨fd, fun base => fn_ok F s_all_letters rfl rfl fun cdv A outer s H E hr => ?_, F.bindsN fun _ _ _ _ _ _ us hl => match us, hl with | [_], _ => rfl, F.kp, F.bindsA fun _ _ _ _ _ _ us hl => match us, hl with | [_], _ => rfl⟩
  have tk : Takes (cxOf (L2.CX P w) P w K mg base ["lots", "lot", "letter"] "all_letters" (defScope (top 39)) (He.ga K "all_letters") cdv A outer s H E) (WK E) := takes_of rfl rfl rfl rfl
  have nd := s_all_letters.nd
  exact rss_one (rs_retV (re_callTy call_tuple_of tupleS rfl (y.free 13) boot_tuple (ra_cons (re_callB (call_sortedDI rfl) sortedDS rfl (y.free 25) boot_sorted (ra_cons (re_dc2 (own := [("lot", 1), ("letter", 2)]) (vs1 := [2]) rfl nd (ri_seq (re_var 0)) (blkOk_by (by kernel_rfl)) (by decide) (inis_name 1) (by decide) (inis_name 2) (by decide) (fun _ _ _ _ _ => rg_name 1 nd) (fun _ _ _ _ _ => ri_seq (re_var 1)) (fun _ _ _ _ _ => rg_name 2 nd) (fun _ _ _ _ _ => re_var 2) (fun _ _ _ _ _ => re_bl)) (ra_nil))) (ra_nil))))

theorem w_lots_on (y : HyL K mg) (pg : PgOk P fileS) (o_is_lot : OkF P w K mg (gx K) 4 (He.ga K "is_lot") ["value"] m_is_lot) (o_all_letters : OkF P w K mg (gx K) 3 (He.ga K "all_letters") ["lots"] m_all_letters) : OkF P w K mg (gx K) 5 (He.ga K "lots_on") ["lots"] m_lots_on := by
  obtain ⟨fd, F⟩ := y.c.def_ 20 (d := d_lots_on) rfl
  refine ⟨fd, fun base => fn_ok F s_lots_on rfl rfl fun cdv A outer s H E hr => ?_, F.bindsN fun _ _ _ _ _ _ us hl => match us, hl with | [_], _ => rfl, F.kp, F.bindsA fun _ _ _ _ _ _ us hl => match us, hl with | [_], _ => rfl⟩
  have tk : Takes (cxOf (L2.CX P w) P w K mg base ["lots", "lot"] "lots_on" (defScope (top 49)) (He.ga K "lots_on") cdv A outer s H E) (WK E) := takes_of rfl rfl rfl rfl
  have nd := s_lots_on.nd
  exact rss_cons (rs_if (rt_w (rw_or (rt_not (rt_val (re_callB call_isi isiS rfl (y.free 14) boot_isinstance (ra_cons (re_var 0) (ra_cons (re_ty .tuple rfl (y.free 13) boot_tuple) (ra_nil)))))) (rw_or1 (rt_not (rt_val (re_callB (cr_all rfl) allS rfl (y.free 18) boot_all (ra_cons (re_lc (own := [("lot", 1)]) rfl nd (ri_seq (re_var 0)) (blkOk_by (by kernel_rfl)) (inis_name 1) (by decide) (fun _ _ _ _ _ => rg_name 1 nd) (fun _ _ _ _ _ => rts_nil) (fun _ _ _ _ _ => re_callO o_is_lot hr (y.glo 20) takes0 (ra_cons (re_var 1) (ra_nil)))) (ra_nil)))))))) (rss_one (rs_raise (c := 6) rfl tk (y.err 35) (y.glo 34))) (rss_nil)) (rss_one (rs_retV (re_callO o_all_letters hr (y.glo 36) tk (ra_cons (re_var 0) (ra_nil)))))

theorem w_is_whole (y : HyL K mg) (pg : PgOk P fileS)  : OkF P w K mg (gx K) 3 (He.ga K "is_whole") ["value"] m_is_whole := by
  obtain ⟨fd, F⟩ := y.c.def_ 21 (d := d_is_whole) rfl
  refine ⟨fd, fun base => fn_ok F s_is_whole rfl rfl fun cdv A outer s H E hr => ?_, F.bindsN fun _ _ _ _ _ _ us hl => match us, hl with | [_], _ => rfl, F.kp, F.bindsA fun _ _ _ _ _ _ us hl => match us, hl with | [_], _ => rfl⟩
  have tk : Takes (cxOf (L2.CX P w) P w K mg base ["value"] "is_whole" (defScope (top 11)) (He.ga K "is_whole") cdv A outer s H E) (WK E) := takes_of rfl rfl rfl rfl
  have nd := s_is_whole.nd
  exact rss_one (rs_retV (re_and (re_callB call_isi isiS rfl (y.free 14) boot_isinstance (ra_cons (re_var 0) (ra_cons (re_ty .int rfl (y.free 4) boot_int) (ra_nil)))) (re_one (re_not (re_callB call_isi isiS rfl (y.free 14) boot_isinstance (ra_cons (re_var 0) (ra_cons (re_ty .bool rfl (y.free 15) boot_bool) (ra_nil))))))))

theorem w_is_integer (y : HyL K mg) (pg : PgOk P fileS) (o_is_whole : OkF P w K mg (gx K) 3 (He.ga K "is_whole") ["value"] m_is_whole) : OkF P w K mg (gx K) 4 (He.ga K "is_integer") ["value"] m_is_integer := by
  obtain ⟨fd, F⟩ := y.c.def_ 22 (d := d_is_integer) rfl
  refine ⟨fd, fun base => fn_ok F s_is_integer rfl rfl fun cdv A outer s H E hr => ?_, F.bindsN fun _ _ _ _ _ _ us hl => match us, hl with | [_], _ => rfl, F.kp, F.bindsA fun _ _ _ _ _ _ us hl => match us, hl with | [_], _ => rfl⟩
  have tk : Takes (cxOf (L2.CX P w) P w K mg base ["value"] "is_integer" (defScope (top 12)) (He.ga K "is_integer") cdv A outer s H E) (WK E) := takes_of rfl rfl rfl rfl
  have nd := s_is_integer.nd
  exact rss_one (rs_retV (re_and (re_callO o_is_whole hr (y.glo 38) tk (ra_cons (re_var 0) (ra_nil))) (re_one (re_chain op_lt cmpS op_lt cmpS rI0_mono (re_neg (re_gint rfl (y.int 39))) (re_var 0) (re_gint rfl (y.int 39))))))

theorem w_require_number (y : HyL K mg) (pg : PgOk P fileS) (o_is_integer : OkF P w K mg (gx K) 4 (He.ga K "is_integer") ["value"] m_is_integer) : OkF P w K mg (gx K) 5 (He.ga K "require_number") ["value"] m_require_number := by
  obtain ⟨fd, F⟩ := y.c.def_ 23 (d := d_require_number) rfl
  refine ⟨fd, fun base => fn_ok F s_require_number rfl rfl fun cdv A outer s H E hr => ?_, F.bindsN fun _ _ _ _ _ _ us hl => match us, hl with | [_], _ => rfl, F.kp, F.bindsA fun _ _ _ _ _ _ us hl => match us, hl with | [_], _ => rfl⟩
  have tk : Takes (cxOf (L2.CX P w) P w K mg base ["value"] "require_number" (defScope (top 23)) (He.ga K "require_number") cdv A outer s H E) (WK E) := takes_of rfl rfl rfl rfl
  have nd := s_require_number.nd
  exact rss_one (rs_if (rt_w (rw_or (rt_not (rt_val (re_callO o_is_integer hr (y.glo 40) tk (ra_cons (re_var 0) (ra_nil))))) (rw_or1 (rt_cmp op_lt cmpS (re_var 0) (re_int))))) (rss_one (rs_raiseV (c := 7) (q := q_InvalidNumber) rfl tk (n_InvalidNumber y pg) c_InvalidNumber fo_InvalidNumber pg.sup (y.free 42) b_InvalidNumber hr (y.glo 41) (ra_cons (re_var 0) (ra_nil)))) (rss_nil))

theorem w_power_in (y : HyL K mg) (pg : PgOk P fileS)  : OkF P w K mg (gx K) 3 (He.ga K "power_in") ["number"] m_power_in := by
  obtain ⟨fd, F⟩ := y.c.def_ 24 (d := d_power_in) rfl
  refine ⟨fd, fun base => fn_ok F s_power_in rfl rfl fun cdv A outer s H E hr => ?_, F.bindsN fun _ _ _ _ _ _ us hl => match us, hl with | [_], _ => rfl, F.kp, F.bindsA fun _ _ _ _ _ _ us hl => match us, hl with | [_], _ => rfl⟩
  have tk : Takes (cxOf (L2.CX P w) P w K mg base ["number"] "power_in" (defScope (top 15)) (He.ga K "power_in") cdv A outer s H E) (WK E) := takes_of rfl rfl rfl rfl
  have nd := s_power_in.nd
  exact rss_one (rs_retV (re_if (rt_cmp op_gt cmpS (re_var 0) (re_int)) (re_bits (re_op op_subA subS (re_var 0) (re_int))) (re_int)))

theorem w_power_for (y : HyL K mg) (pg : PgOk P fileS) (o_require_number : OkF P w K mg (gx K) 5 (He.ga K "require_number") ["value"] m_require_number) (o_power_in : OkF P w K mg (gx K) 3 (He.ga K "power_in") ["number"] m_power_in) : OkF P w K mg (gx K) 6 (He.ga K "power_for") ["number"] m_power_for := by
  obtain ⟨fd, F⟩ := y.c.def_ 25 (d := d_power_for) rfl
  refine ⟨fd, fun base => fn_ok F s_power_for rfl rfl fun cdv A outer s H E hr => ?_, F.bindsN fun _ _ _ _ _ _ us hl => match us, hl with | [_], _ => rfl, F.kp, F.bindsA fun _ _ _ _ _ _ us hl => match us, hl with | [_], _ => rfl⟩
  have tk : Takes (cxOf (L2.CX P w) P w K mg base ["number"] "power_for" (defScope (top 24)) (He.ga K "power_for") cdv A outer s H E) (WK E) := takes_of rfl rfl rfl rfl
  have nd := s_power_for.nd
  exact rss_cons (rs_expr (re_callO o_require_number hr (y.glo 43) tk (ra_cons (re_var 0) (ra_nil)))) (rss_one (rs_retV (re_callO o_power_in hr (y.glo 44) tk (ra_cons (re_var 0) (ra_nil)))))

theorem w_is_within_numbers (y : HyL K mg) (pg : PgOk P fileS) (o_is_whole : OkF P w K mg (gx K) 3 (He.ga K "is_whole") ["value"] m_is_whole) : OkF P w K mg (gx K) 4 (He.ga K "is_within_numbers") ["value", "least", "most"] m_is_within_numbers := by
  obtain ⟨fd, F⟩ := y.c.def_ 26 (d := d_is_within_numbers) rfl
  refine ⟨fd, fun base => fn_ok F s_is_within_numbers rfl rfl fun cdv A outer s H E hr => ?_, F.bindsN fun _ _ _ _ _ _ us hl => match us, hl with | [_, _, _], _ => rfl, F.kp, F.bindsA fun _ _ _ _ _ _ us hl => match us, hl with | [_, _, _], _ => rfl⟩
  have tk : Takes (cxOf (L2.CX P w) P w K mg base ["value", "least", "most"] "is_within" (defScope (top 13)) (He.ga K "is_within_numbers") cdv A outer s H E) (WK E) := takes_of rfl rfl rfl rfl
  have nd := s_is_within_numbers.nd
  exact rss_one (rs_retV (re_and (re_callO o_is_whole hr (y.glo 38) tk (ra_cons (re_var 0) (ra_nil))) (re_one (re_chain op_le cmpS op_le cmpS rI0_mono (re_var 1) (re_var 0) (re_var 2)))))

theorem w_is_bound (y : HyL K mg) (pg : PgOk P fileS) (o_is_within_numbers : OkF P w K mg (gx K) 4 (He.ga K "is_within_numbers") ["value", "least", "most"] m_is_within_numbers) : OkF P w K mg (gx K) 5 (He.ga K "is_bound") ["value"] m_is_bound := by
  obtain ⟨fd, F⟩ := y.c.def_ 27 (d := d_is_bound) rfl
  refine ⟨fd, fun base => fn_ok F s_is_bound rfl rfl fun cdv A outer s H E hr => ?_, F.bindsN fun _ _ _ _ _ _ us hl => match us, hl with | [_], _ => rfl, F.kp, F.bindsA fun _ _ _ _ _ _ us hl => match us, hl with | [_], _ => rfl⟩
  have tk : Takes (cxOf (L2.CX P w) P w K mg base ["value"] "is_bound" (defScope (top 21)) (He.ga K "is_bound") cdv A outer s H E) (WK E) := takes_of rfl rfl rfl rfl
  have nd := s_is_bound.nd
  exact rss_cons (rs_if (rt_w (rw_or (rt_not (rt_val (re_callB call_isi isiS rfl (y.free 14) boot_isinstance (ra_cons (re_var 0) (ra_cons (re_ty .tuple rfl (y.free 13) boot_tuple) (ra_nil)))))) (rw_or1 (rt_cmp (op_neD (Room.u64 hr)) neS (re_callB call_len lenS rfl (y.free 0) boot_len (ra_cons (re_var 0) (ra_nil))) (re_gint rfl (y.int 46)))))) (rss_one (rs_retV (re_bl))) (rss_nil)) (rss_one (rs_retV (re_and (re_callO o_is_within_numbers hr (y.glo 48) tk (ra_cons (re_ix (re_var 0) (re_int)) (ra_cons (re_int) (ra_cons (re_gint rfl (y.int 47)) (ra_nil))))) (re_one (re_callO o_is_within_numbers hr (y.glo 48) tk (ra_cons (re_ix (re_var 0) (re_int)) (ra_cons (re_int) (ra_cons (re_gint rfl (y.int 49)) (ra_nil)))))))))

theorem w_require_bound (y : HyL K mg) (pg : PgOk P fileS) (o_is_bound : OkF P w K mg (gx K) 5 (He.ga K "is_bound") ["value"] m_is_bound) : OkF P w K mg (gx K) 6 (He.ga K "require_bound") ["value"] m_require_bound := by
  obtain ⟨fd, F⟩ := y.c.def_ 28 (d := d_require_bound) rfl
  refine ⟨fd, fun base => fn_ok F s_require_bound rfl rfl fun cdv A outer s H E hr => ?_, F.bindsN fun _ _ _ _ _ _ us hl => match us, hl with | [_], _ => rfl, F.kp, F.bindsA fun _ _ _ _ _ _ us hl => match us, hl with | [_], _ => rfl⟩
  have tk : Takes (cxOf (L2.CX P w) P w K mg base ["value"] "require_bound" (defScope (top 22)) (He.ga K "require_bound") cdv A outer s H E) (WK E) := takes_of rfl rfl rfl rfl
  have nd := s_require_bound.nd
  exact rss_one (rs_if (rt_not (rt_val (re_callO o_is_bound hr (y.glo 50) tk (ra_cons (re_var 0) (ra_nil))))) (rss_one (rs_raise (c := 6) rfl tk (y.err 35) (y.glo 34))) (rss_nil))

theorem w_raised (y : HyL K mg) (pg : PgOk P fileS)  : OkF P w K mg (gx K) 3 (He.ga K "raised") ["number", "times"] m_raised := by
  obtain ⟨fd, F⟩ := y.c.def_ 29 (d := d_raised) rfl
  refine ⟨fd, fun base => fn_ok F s_raised rfl rfl fun cdv A outer s H E hr => ?_, F.bindsN fun _ _ _ _ _ _ us hl => match us, hl with | [_, _], _ => rfl, F.kp, F.bindsA fun _ _ _ _ _ _ us hl => match us, hl with | [_, _], _ => rfl⟩
  have tk : Takes (cxOf (L2.CX P w) P w K mg base ["number", "times", "found", "square", "left"] "raised" (defScope (top 16)) (He.ga K "raised") cdv A outer s H E) (WK E) := takes_of rfl rfl rfl rfl
  have nd := s_raised.nd
  exact rss_cons (rs_par3 2 3 4 rfl nd (ra_cons (re_int) (ra_cons (re_var 0) (ra_cons (re_var 1) (ra_nil))))) (rss_cons (rs_while (fun _ _ => 100000) (passes_of rfl) (rt_cmp op_gt cmpS (re_var 4) (re_int)) (rss_cons (rs_set 2 nd (re_if (rt_cmp (op_eqD (Room.u64 hr)) eqS (re_op op_mod modS (re_var 4) (re_int)) (re_int)) (re_op op_mulA mulS (re_var 2) (re_var 3)) (re_var 2))) (rss_one (rs_par 3 4 rfl nd (ra_cons (re_op op_mulA mulS (re_var 3) (re_var 3)) (ra_cons (re_op op_fdivA fdivS (re_var 4) (re_int)) (ra_nil))))))) (rss_one (rs_retV (re_var 2))))

theorem w_is_below_in (y : HyL K mg) (pg : PgOk P fileS) (o_raised : OkF P w K mg (gx K) 3 (He.ga K "raised") ["number", "times"] m_raised) : OkF P w K mg (gx K) 4 (He.ga K "is_below_in") ["number", "bound"] m_is_below_in := by
  obtain ⟨fd, F⟩ := y.c.def_ 30 (d := d_is_below_in) rfl
  refine ⟨fd, fun base => fn_ok F s_is_below_in rfl rfl fun cdv A outer s H E hr => ?_, F.bindsN fun _ _ _ _ _ _ us hl => match us, hl with | [_, _], _ => rfl, F.kp, F.bindsA fun _ _ _ _ _ _ us hl => match us, hl with | [_, _], _ => rfl⟩
  have tk : Takes (cxOf (L2.CX P w) P w K mg base ["number", "bound"] "is_below_in" (defScope (top 17)) (He.ga K "is_below_in") cdv A outer s H E) (WK E) := takes_of rfl rfl rfl rfl
  have nd := s_is_below_in.nd
  exact rss_one (rs_retV (re_cmp op_le cmpS (re_callO o_raised hr (y.glo 52) tk (ra_cons (re_var 0) (ra_cons (re_ix (re_var 1) (re_int)) (ra_nil)))) (re_op op_shlW shlS (re_int) (re_ix (re_var 1) (re_int)))))

theorem w_is_below (y : HyL K mg) (pg : PgOk P fileS) (o_require_number : OkF P w K mg (gx K) 5 (He.ga K "require_number") ["value"] m_require_number) (o_require_bound : OkF P w K mg (gx K) 6 (He.ga K "require_bound") ["value"] m_require_bound) (o_is_below_in : OkF P w K mg (gx K) 4 (He.ga K "is_below_in") ["number", "bound"] m_is_below_in) : OkF P w K mg (gx K) 7 (He.ga K "is_below") ["number", "bound"] m_is_below := by
  obtain ⟨fd, F⟩ := y.c.def_ 31 (d := d_is_below) rfl
  refine ⟨fd, fun base => fn_ok F s_is_below rfl rfl fun cdv A outer s H E hr => ?_, F.bindsN fun _ _ _ _ _ _ us hl => match us, hl with | [_, _], _ => rfl, F.kp, F.bindsA fun _ _ _ _ _ _ us hl => match us, hl with | [_, _], _ => rfl⟩
  have tk : Takes (cxOf (L2.CX P w) P w K mg base ["number", "bound"] "is_below" (defScope (top 25)) (He.ga K "is_below") cdv A outer s H E) (WK E) := takes_of rfl rfl rfl rfl
  have nd := s_is_below.nd
  exact rss_cons (rs_expr (re_callO o_require_number hr (y.glo 43) tk (ra_cons (re_var 0) (ra_nil)))) (rss_cons (rs_expr (re_callO o_require_bound hr (y.glo 51) tk (ra_cons (re_var 1) (ra_nil)))) (rss_one (rs_retV (re_callO o_is_below_in hr (y.glo 53) tk (ra_cons (re_var 0) (ra_cons (re_var 1) (ra_nil)))))))

theorem w_most_in (y : HyL K mg) (pg : PgOk P fileS) (o_is_below_in : OkF P w K mg (gx K) 4 (He.ga K "is_below_in") ["number", "bound"] m_is_below_in) : OkF P w K mg (gx K) 5 (He.ga K "most_in") ["bound"] m_most_in := by
  obtain ⟨fd, F⟩ := y.c.def_ 32 (d := d_most_in) rfl
  refine ⟨fd, fun base => fn_ok F s_most_in rfl rfl fun cdv A outer s H E hr => ?_, F.bindsN fun _ _ _ _ _ _ us hl => match us, hl with | [_], _ => rfl, F.kp, F.bindsA fun _ _ _ _ _ _ us hl => match us, hl with | [_], _ => rfl⟩
  have tk : Takes (cxOf (L2.CX P w) P w K mg base ["bound", "low", "high", "middle"] "most_in" (defScope (top 20)) (He.ga K "most_in") cdv A outer s H E) (WK E) := takes_of rfl rfl rfl rfl
  have nd := s_most_in.nd
  exact rss_cons (rs_par 1 2 rfl nd (ra_cons (re_int) (ra_cons (re_op op_shlW shlS (re_int) (re_op op_addA addS (re_op op_fdivA fdivS (re_ix (re_var 0) (re_int)) (re_ix (re_var 0) (re_int))) (re_int))) (ra_nil)))) (rss_cons (rs_while (fun _ _ => 100000) (passes_of rfl) (rt_cmp op_gt cmpS (re_op op_subA subS (re_var 2) (re_var 1)) (re_int)) (rss_cons (rs_set 3 nd (re_op op_fdivA fdivS (re_op op_addA addS (re_var 1) (re_var 2)) (re_int))) (rss_one (rs_if (rt_val (re_callO o_is_below_in hr (y.glo 53) tk (ra_cons (re_var 3) (ra_cons (re_var 0) (ra_nil))))) (rss_one (rs_set 1 nd (re_var 3))) (rss_one (rs_set 2 nd (re_var 3))))))) (rss_one (rs_retV (re_var 1))))

theorem w_most_within (y : HyL K mg) (pg : PgOk P fileS) (o_require_bound : OkF P w K mg (gx K) 6 (He.ga K "require_bound") ["value"] m_require_bound) (o_most_in : OkF P w K mg (gx K) 5 (He.ga K "most_in") ["bound"] m_most_in) : OkF P w K mg (gx K) 7 (He.ga K "most_within") ["bound"] m_most_within := by
  obtain ⟨fd, F⟩ := y.c.def_ 33 (d := d_most_within) rfl
  refine ⟨fd, fun base => fn_ok F s_most_within rfl rfl fun cdv A outer s H E hr => ?_, F.bindsN fun _ _ _ _ _ _ us hl => match us, hl with | [_], _ => rfl, F.kp, F.bindsA fun _ _ _ _ _ _ us hl => match us, hl with | [_], _ => rfl⟩
  have tk : Takes (cxOf (L2.CX P w) P w K mg base ["bound"] "most_within" (defScope (top 28)) (He.ga K "most_within") cdv A outer s H E) (WK E) := takes_of rfl rfl rfl rfl
  have nd := s_most_within.nd
  exact rss_cons (rs_expr (re_callO o_require_bound hr (y.glo 51) tk (ra_cons (re_var 0) (ra_nil)))) (rss_one (rs_retV (re_callO o_most_in hr (y.glo 55) tk (ra_cons (re_var 0) (ra_nil)))))

theorem w_least_in (y : HyL K mg) (pg : PgOk P fileS)  : OkF P w K mg (gx K) 3 (He.ga K "least_in") ["bound"] m_least_in := by
  obtain ⟨fd, F⟩ := y.c.def_ 34 (d := d_least_in) rfl
  refine ⟨fd, fun base => fn_ok F s_least_in rfl rfl fun cdv A outer s H E hr => ?_, F.bindsN fun _ _ _ _ _ _ us hl => match us, hl with | [_], _ => rfl, F.kp, F.bindsA fun _ _ _ _ _ _ us hl => match us, hl with | [_], _ => rfl⟩
  have tk : Takes (cxOf (L2.CX P w) P w K mg base ["bound", "shared"] "least_in" (defScope (top 19)) (He.ga K "least_in") cdv A outer s H E) (WK E) := takes_of rfl rfl rfl rfl
  have nd := s_least_in.nd
  exact rss_cons (rs_set 1 nd (re_callBfun cr_gcd int2S rfl (y.blt (exL_at y.x 1 rfl)) (ra_cons (re_ix (re_var 0) (re_int)) (ra_cons (re_ix (re_var 0) (re_int)) (ra_nil))))) (rss_one (rs_retV (re_tup (ra_cons (re_op op_fdivA fdivS (re_ix (re_var 0) (re_int)) (re_var 1)) (ra_cons (re_op op_fdivA fdivS (re_ix (re_var 0) (re_int)) (re_var 1)) (ra_nil))))))

theorem w_least_terms (y : HyL K mg) (pg : PgOk P fileS) (o_require_bound : OkF P w K mg (gx K) 6 (He.ga K "require_bound") ["value"] m_require_bound) (o_least_in : OkF P w K mg (gx K) 3 (He.ga K "least_in") ["bound"] m_least_in) : OkF P w K mg (gx K) 7 (He.ga K "least_terms") ["bound"] m_least_terms := by
  obtain ⟨fd, F⟩ := y.c.def_ 35 (d := d_least_terms) rfl
  refine ⟨fd, fun base => fn_ok F s_least_terms rfl rfl fun cdv A outer s H E hr => ?_, F.bindsN fun _ _ _ _ _ _ us hl => match us, hl with | [_], _ => rfl, F.kp, F.bindsA fun _ _ _ _ _ _ us hl => match us, hl with | [_], _ => rfl⟩
  have tk : Takes (cxOf (L2.CX P w) P w K mg base ["bound"] "least_terms" (defScope (top 27)) (He.ga K "least_terms") cdv A outer s H E) (WK E) := takes_of rfl rfl rfl rfl
  have nd := s_least_terms.nd
  exact rss_cons (rs_expr (re_callO o_require_bound hr (y.glo 51) tk (ra_cons (re_var 0) (ra_nil)))) (rss_one (rs_retV (re_callO o_least_in hr (y.glo 57) tk (ra_cons (re_var 0) (ra_nil)))))

theorem w_compared_in (y : HyL K mg) (pg : PgOk P fileS)  : OkF P w K mg (gx K) 3 (He.ga K "compared_in") ["one", "other"] m_compared_in := by
  obtain ⟨fd, F⟩ := y.c.def_ 36 (d := d_compared_in) rfl
  refine ⟨fd, fun base => fn_ok F s_compared_in rfl rfl fun cdv A outer s H E hr => ?_, F.bindsN fun _ _ _ _ _ _ us hl => match us, hl with | [_, _], _ => rfl, F.kp, F.bindsA fun _ _ _ _ _ _ us hl => match us, hl with | [_, _], _ => rfl⟩
  have tk : Takes (cxOf (L2.CX P w) P w K mg base ["one", "other", "left", "right"] "compared_in" (defScope (top 18)) (He.ga K "compared_in") cdv A outer s H E) (WK E) := takes_of rfl rfl rfl rfl
  have nd := s_compared_in.nd
  exact rss_cons (rs_par 2 3 rfl nd (ra_cons (re_op op_mulA mulS (re_ix (re_var 0) (re_int)) (re_ix (re_var 1) (re_int))) (ra_cons (re_op op_mulA mulS (re_ix (re_var 1) (re_int)) (re_ix (re_var 0) (re_int))) (ra_nil)))) (rss_one (rs_retV (re_op op_subA subS (re_callTy call_int1 intFS rfl (y.free 4) boot_int (ra_cons (re_cmp op_gt cmpS (re_var 2) (re_var 3)) (ra_nil))) (re_callTy call_int1 intFS rfl (y.free 4) boot_int (ra_cons (re_cmp op_lt cmpS (re_var 2) (re_var 3)) (ra_nil))))))

theorem w_compare_bounds (y : HyL K mg) (pg : PgOk P fileS) (o_require_bound : OkF P w K mg (gx K) 6 (He.ga K "require_bound") ["value"] m_require_bound) (o_compared_in : OkF P w K mg (gx K) 3 (He.ga K "compared_in") ["one", "other"] m_compared_in) : OkF P w K mg (gx K) 7 (He.ga K "compare_bounds") ["one", "other"] m_compare_bounds := by
  obtain ⟨fd, F⟩ := y.c.def_ 37 (d := d_compare_bounds) rfl
  refine ⟨fd, fun base => fn_ok F s_compare_bounds rfl rfl fun cdv A outer s H E hr => ?_, F.bindsN fun _ _ _ _ _ _ us hl => match us, hl with | [_, _], _ => rfl, F.kp, F.bindsA fun _ _ _ _ _ _ us hl => match us, hl with | [_, _], _ => rfl⟩
  have tk : Takes (cxOf (L2.CX P w) P w K mg base ["one", "other"] "compare_bounds" (defScope (top 26)) (He.ga K "compare_bounds") cdv A outer s H E) (WK E) := takes_of rfl rfl rfl rfl
  have nd := s_compare_bounds.nd
  exact rss_cons (rs_expr (re_callO o_require_bound hr (y.glo 51) tk (ra_cons (re_var 0) (ra_nil)))) (rss_cons (rs_expr (re_callO o_require_bound hr (y.glo 51) tk (ra_cons (re_var 1) (ra_nil)))) (rss_one (rs_retV (re_callO o_compared_in hr (y.glo 59) tk (ra_cons (re_var 0) (ra_cons (re_var 1) (ra_nil)))))))

theorem w_right (y : HyL K mg) (pg : PgOk P fileS) (o_cj_turned : OkF P w K mg (gx K) 3 (He.ga K "_law_cj_turned") ["_law_items", "_law_turn"] m_cj_turned) (o_joined_lot : OkF P w K mg (gx K) 7 (He.ga K "joined_lot") ["one", "other"] m_joined_lot) (o_common_lot : OkF P w K mg (gx K) 7 (He.ga K "common_lot") ["one", "other"] m_common_lot) (o_rest_lot : OkF P w K mg (gx K) 7 (He.ga K "rest_lot") ["one", "other"] m_rest_lot) (o_is_within : OkF P w K mg (gx K) 7 (He.ga K "is_within") ["one", "other"] m_is_within) (o_are_apart : OkF P w K mg (gx K) 7 (He.ga K "are_apart") ["one", "other"] m_are_apart) (o_lots_within : OkF P w K mg (gx K) 6 (He.ga K "lots_within") ["lot"] m_lots_within) (o_lots_on : OkF P w K mg (gx K) 5 (He.ga K "lots_on") ["lots"] m_lots_on) (o_power_for : OkF P w K mg (gx K) 6 (He.ga K "power_for") ["number"] m_power_for) (o_is_below : OkF P w K mg (gx K) 7 (He.ga K "is_below") ["number", "bound"] m_is_below) (o_most_within : OkF P w K mg (gx K) 7 (He.ga K "most_within") ["bound"] m_most_within) (o_least_terms : OkF P w K mg (gx K) 7 (He.ga K "least_terms") ["bound"] m_least_terms) (o_compare_bounds : OkF P w K mg (gx K) 7 (He.ga K "compare_bounds") ["one", "other"] m_compare_bounds) : OkG P w K mg (gx K) (TBs mg (csK K)) 10 (He.ga K "_law_right") ["_law_turn"] m_right := by
  obtain ⟨fd, F⟩ := y.c.def_ 38 (d := d_right) rfl
  obtain ⟨fm, F_met⟩ := y.c.def_ 40 (d := d_met) rfl
  have B_met : Binds K fm ["_law_call"] [] := F_met.bindsN fun _ _ _ _ _ _ us hl => match us, hl with | [_], _ => rfl
  have EX : ExmOk K (gx K) exm := exmBs_ok (exL_at y.x 4 rfl)
  refine ⟨fd, fun base tb => fnG_ok (p := ("_law_right", none)) F s_right rfl rfl fun A outer s H E hgd hr => ?_, F.bindsN fun _ _ _ _ _ _ us hl => match us, hl with | [_], _ => rfl, F.kp, F.bindsA fun _ _ _ _ _ _ us hl => match us, hl with | [_], _ => rfl⟩
  have tk : Takes (cxOf (L2.CX P w) P w K mg base ["_law_turn", "_law_none", "_law_bad", "_law_odd", "_law_told", "_law_due", "_law_call"] "_law_right" (defScope (top 55)) (He.fAd K ("_law_right", none)) (.ref (He.codeOf K ("_law_right", none))) A outer s H E) (WK E) := takes_of rfl rfl rfl rfl
  have nd := s_right.nd
  exact rss_cons (rs_set 1 nd (re_callO o_cj_turned hr (y.glo 8) tk (ra_cons (re_lst (ra_cons (re_non) (ra_cons (re_int) (ra_cons (re_lst (ra_cons (re_int) (ra_nil))) (ra_cons (re_tup (ra_cons (re_int) (ra_cons (re_int) (ra_nil)))) (ra_cons (re_tup (ra_cons (re_int) (ra_cons (re_int) (ra_nil)))) (ra_cons (re_tup (ra_cons (re_int) (ra_nil))) (ra_cons (re_tup (ra_cons (re_neg (re_int)) (ra_nil))) (ra_cons (re_tup (ra_cons (re_bl) (ra_nil))) (ra_cons (re_tup (ra_cons (re_str) (ra_nil))) (ra_cons (re_str) (ra_cons (re_dnil) (ra_cons (re_tup (ra_cons (re_int) (ra_cons (re_non) (ra_nil)))) (ra_cons (re_tup (ra_cons (re_tup (ra_cons (re_int) (ra_nil))) (ra_nil))) (ra_nil))))))))))))))) (ra_cons (re_var 0) (ra_nil))))) (rss_cons (rs_set 2 nd (re_callO o_cj_turned hr (y.glo 8) tk (ra_cons (re_lst (ra_cons (re_non) (ra_cons (re_neg (re_int)) (ra_cons (re_bl) (ra_cons (re_str) (ra_cons (re_tup (ra_cons (re_int) (ra_nil))) (ra_cons (re_op op_powA powS (re_int) (re_int)) (ra_cons (re_op op_powA powS (re_int) (re_int)) (ra_cons (re_lst (ra_cons (re_int) (ra_nil))) (ra_nil)))))))))) (ra_cons (re_var 0) (ra_nil))))) (rss_cons (rs_set 3 nd (re_lst (ra_cons (re_non) (ra_cons (re_int) (ra_cons (re_tup (ra_nil)) (ra_cons (re_tup (ra_cons (re_int) (ra_nil))) (ra_cons (re_lst (ra_cons (re_int) (ra_cons (re_int) (ra_nil)))) (ra_cons (re_tup (ra_cons (re_neg (re_int)) (ra_cons (re_int) (ra_nil)))) (ra_cons (re_tup (ra_cons (re_int) (ra_cons (re_int) (ra_nil)))) (ra_cons (re_tup (ra_cons (re_int) (ra_cons (re_bl) (ra_nil)))) (ra_cons (re_tup (ra_cons (re_bl) (ra_cons (re_int) (ra_nil)))) (ra_cons (re_tup (ra_cons (re_int) (ra_cons (re_int) (ra_nil)))) (ra_cons (re_tup (ra_cons (re_int) (ra_cons (re_int) (ra_nil)))) (ra_cons (re_tup (ra_cons (re_int) (ra_cons (re_int) (ra_cons (re_int) (ra_nil))))) (ra_cons (re_tup (ra_cons (re_str) (ra_cons (re_int) (ra_nil)))) (ra_cons (re_dnil) (ra_nil))))))))))))))))) (rss_cons (rs_asgV3 3 4 5 nd (re_callO o_cj_turned hr (y.glo 8) tk (ra_cons (re_var 3) (ra_cons (re_var 0) (ra_nil))))) (rss_cons (rs_for (passes_of rfl) rfl (ri_seq (re_tup (ra_cons (re_adr rfl (y.glo 12)) (ra_cons (re_adr rfl (y.glo 11)) (ra_cons (re_adr rfl (y.glo 10)) (ra_cons (re_adr rfl (y.ali (exL_at y.x 0 rfl))) (ra_cons (re_adr rfl (y.glo 9)) (ra_nil)))))))) (rg_name 6 nd) (rss_cons (rs_app 4 (ra_cons (re_met EX (y.glo 31) F_met B_met s_met (by exact fun _ _ _ => h_met y hgd (u_met hr)) rfl (fun _ => rfl) rfl (Or.inl rfl) (tb (He.cT K ("_law_right", none)) (by simp [csK, tf])) rfl (by kernel_rfl) hr (LamX.lamS_by (by kernel_rfl)) rfl (fun _ _ _ _ _ => rfl) (by exact fun A outer s H E f c2 hr => re_callV (show TabV P w K mg (gx K) 7 [(4, m_joined_lot), (3, m_common_lot), (2, m_rest_lot), (1, m_is_within), (0, m_are_apart)] from tabV_cons o_joined_lot (tabV_cons o_common_lot (tabV_cons o_rest_lot (tabV_cons o_is_within (tabV_cons o_are_apart (tabV_nil)))))) hr (takes_of rfl rfl rfl rfl) 6 (ra_cons (re_var 1) (ra_cons (re_var 2) (ra_nil))))) (ra_nil))) (rss_cons (rs_app 4 (ra_cons (re_met EX (y.glo 31) F_met B_met s_met (by exact fun _ _ _ => h_met y hgd (u_met hr)) rfl (fun _ => rfl) rfl (Or.inl rfl) (tb (He.cT K ("_law_right", none)) (by simp [csK, tf])) rfl (by kernel_rfl) hr (LamX.lamS_by (by kernel_rfl)) rfl (fun _ _ _ _ _ => rfl) (by exact fun A outer s H E f c2 hr => re_callV (show TabV P w K mg (gx K) 7 [(4, m_joined_lot), (3, m_common_lot), (2, m_rest_lot), (1, m_is_within), (0, m_are_apart)] from tabV_cons o_joined_lot (tabV_cons o_common_lot (tabV_cons o_rest_lot (tabV_cons o_is_within (tabV_cons o_are_apart (tabV_nil)))))) hr (takes_of rfl rfl rfl rfl) 6 (ra_cons (re_tup (ra_cons (re_int) (ra_cons (re_int) (ra_nil)))) (ra_cons (re_var 1) (ra_nil))))) (ra_nil))) (rss_cons (rs_app 4 (ra_cons (re_met EX (y.glo 31) F_met B_met s_met (by exact fun _ _ _ => h_met y hgd (u_met hr)) rfl (fun _ => rfl) rfl (Or.inl rfl) (tb (He.cT K ("_law_right", none)) (by simp [csK, tf])) rfl (by kernel_rfl) hr (LamX.lamS_by (by kernel_rfl)) rfl (fun _ _ _ _ _ => rfl) (by exact fun A outer s H E f c2 hr => re_callV (show TabV P w K mg (gx K) 7 [(4, m_joined_lot), (3, m_common_lot), (2, m_rest_lot), (1, m_is_within), (0, m_are_apart)] from tabV_cons o_joined_lot (tabV_cons o_common_lot (tabV_cons o_rest_lot (tabV_cons o_is_within (tabV_cons o_are_apart (tabV_nil)))))) hr (takes_of rfl rfl rfl rfl) 6 (ra_cons (re_tup (ra_cons (re_int) (ra_cons (re_int) (ra_nil)))) (ra_cons (re_tup (ra_nil)) (ra_nil))))) (ra_nil))) (rss_one (rs_set 5 nd (re_op op_addA addS (re_var 5) (re_lst (ra_cons (re_str) (ra_cons (re_str) (ra_cons (re_str) (ra_nil)))))))))))) (rss_cons (rs_app 4 (ra_cons (re_met EX (y.glo 31) F_met B_met s_met (by exact fun _ _ _ => h_met y hgd (u_met hr)) rfl (fun _ => rfl) rfl (Or.inl rfl) (tb (He.cT K ("_law_right", none)) (by simp [csK, tf])) rfl (by kernel_rfl) hr (LamX.lamS_by (by kernel_rfl)) rfl (fun _ _ _ _ _ => rfl) (by exact fun A outer s H E f c2 hr => re_callO o_lots_within hr (y.glo 33) (takes_of rfl rfl rfl rfl) (ra_cons (re_var 1) (ra_nil)))) (ra_nil))) (rss_cons (rs_app 4 (ra_cons (re_met EX (y.glo 31) F_met B_met s_met (by exact fun _ _ _ => h_met y hgd (u_met hr)) rfl (fun _ => rfl) rfl (Or.inl rfl) (tb (He.cT K ("_law_right", none)) (by simp [csK, tf])) rfl (by kernel_rfl) hr (LamX.lamS_by (by kernel_rfl)) rfl (fun _ _ _ _ _ => rfl) (by exact fun A outer s H E f c2 hr => re_callO o_lots_on hr (y.glo 37) (takes_of rfl rfl rfl rfl) (ra_cons (re_callO o_cj_turned hr (y.glo 8) (takes_of rfl rfl rfl rfl) (ra_cons (re_lst (ra_cons (re_non) (ra_cons (re_int) (ra_cons (re_lst (ra_cons (re_tup (ra_nil)) (ra_nil))) (ra_cons (re_tup (ra_cons (re_tup (ra_cons (re_int) (ra_nil))) (ra_cons (re_var 1) (ra_nil)))) (ra_cons (re_tup (ra_cons (re_var 1) (ra_nil))) (ra_cons (re_str) (ra_cons (re_dnil) (ra_nil))))))))) (ra_cons (re_var 0) (ra_nil)))) (ra_nil)))) (ra_nil))) (rss_cons (rs_app 4 (ra_cons (re_met EX (y.glo 31) F_met B_met s_met (by exact fun _ _ _ => h_met y hgd (u_met hr)) rfl (fun _ => rfl) rfl (Or.inl rfl) (tb (He.cT K ("_law_right", none)) (by simp [csK, tf])) rfl (by kernel_rfl) hr (LamX.lamS_by (by kernel_rfl)) rfl (fun _ _ _ _ _ => rfl) (by exact fun A outer s H E f c2 hr => re_callO o_power_for hr (y.glo 45) (takes_of rfl rfl rfl rfl) (ra_cons (re_var 2) (ra_nil)))) (ra_nil))) (rss_cons (rs_app 4 (ra_cons (re_met EX (y.glo 31) F_met B_met s_met (by exact fun _ _ _ => h_met y hgd (u_met hr)) rfl (fun _ => rfl) rfl (Or.inl rfl) (tb (He.cT K ("_law_right", none)) (by simp [csK, tf])) rfl (by kernel_rfl) hr (LamX.lamS_by (by kernel_rfl)) rfl (fun _ _ _ _ _ => rfl) (by exact fun A outer s H E f c2 hr => re_callO o_is_below hr (y.glo 54) (takes_of rfl rfl rfl rfl) (ra_cons (re_var 2) (ra_cons (re_var 3) (ra_nil))))) (ra_nil))) (rss_cons (rs_app 4 (ra_cons (re_met EX (y.glo 31) F_met B_met s_met (by exact fun _ _ _ => h_met y hgd (u_met hr)) rfl (fun _ => rfl) rfl (Or.inl rfl) (tb (He.cT K ("_law_right", none)) (by simp [csK, tf])) rfl (by kernel_rfl) hr (LamX.lamS_by (by kernel_rfl)) rfl (fun _ _ _ _ _ => rfl) (by exact fun A outer s H E f c2 hr => re_callO o_is_below hr (y.glo 54) (takes_of rfl rfl rfl rfl) (ra_cons (re_int) (ra_cons (re_var 3) (ra_nil))))) (ra_nil))) (rss_cons (rs_app 4 (ra_cons (re_met EX (y.glo 31) F_met B_met s_met (by exact fun _ _ _ => h_met y hgd (u_met hr)) rfl (fun _ => rfl) rfl (Or.inl rfl) (tb (He.cT K ("_law_right", none)) (by simp [csK, tf])) rfl (by kernel_rfl) hr (LamX.lamS_by (by kernel_rfl)) rfl (fun _ _ _ _ _ => rfl) (by exact fun A outer s H E f c2 hr => re_callO o_most_within hr (y.glo 56) (takes_of rfl rfl rfl rfl) (ra_cons (re_var 3) (ra_nil)))) (ra_nil))) (rss_cons (rs_app 4 (ra_cons (re_met EX (y.glo 31) F_met B_met s_met (by exact fun _ _ _ => h_met y hgd (u_met hr)) rfl (fun _ => rfl) rfl (Or.inl rfl) (tb (He.cT K ("_law_right", none)) (by simp [csK, tf])) rfl (by kernel_rfl) hr (LamX.lamS_by (by kernel_rfl)) rfl (fun _ _ _ _ _ => rfl) (by exact fun A outer s H E f c2 hr => re_callO o_least_terms hr (y.glo 58) (takes_of rfl rfl rfl rfl) (ra_cons (re_var 3) (ra_nil)))) (ra_nil))) (rss_cons (rs_app 4 (ra_cons (re_met EX (y.glo 31) F_met B_met s_met (by exact fun _ _ _ => h_met y hgd (u_met hr)) rfl (fun _ => rfl) rfl (Or.inl rfl) (tb (He.cT K ("_law_right", none)) (by simp [csK, tf])) rfl (by kernel_rfl) hr (LamX.lamS_by (by kernel_rfl)) rfl (fun _ _ _ _ _ => rfl) (by exact fun A outer s H E f c2 hr => re_callO o_compare_bounds hr (y.glo 60) (takes_of rfl rfl rfl rfl) (ra_cons (re_var 3) (ra_cons (re_non) (ra_nil))))) (ra_nil))) (rss_cons (rs_app 4 (ra_cons (re_met EX (y.glo 31) F_met B_met s_met (by exact fun _ _ _ => h_met y hgd (u_met hr)) rfl (fun _ => rfl) rfl (Or.inl rfl) (tb (He.cT K ("_law_right", none)) (by simp [csK, tf])) rfl (by kernel_rfl) hr (LamX.lamS_by (by kernel_rfl)) rfl (fun _ _ _ _ _ => rfl) (by exact fun A outer s H E f c2 hr => re_callO o_compare_bounds hr (y.glo 60) (takes_of rfl rfl rfl rfl) (ra_cons (re_tup (ra_cons (re_int) (ra_cons (re_int) (ra_nil)))) (ra_cons (re_var 3) (ra_nil))))) (ra_nil))) (rss_one (rs_retF (re_cmp (op_eqD (Room.u64 hr)) eqS (re_var 4) (re_op op_addA addS (re_op op_addA addS (re_var 5) (re_lst (ra_cons (re_str) (ra_cons (re_str) (ra_cons (re_op op_addA addS (re_str) (re_repr hgd (Room.u64 hr) (y.free 61) (ra_cons (re_var 2) (ra_nil)))) (ra_cons (re_op op_addA addS (re_str) (re_repr hgd (Room.u64 hr) (y.free 61) (ra_cons (re_var 2) (ra_nil)))) (ra_nil))))))) (re_op op_mulA mulS (re_lst (ra_cons (re_str) (ra_nil))) (re_int)))))))))))))))))))

theorem w_law (y : HyL K mg) (pg : PgOk P fileS) (o_cj_hat : OkF P w K mg (gx K) 3 (He.ga K "_law_cj_hat") ["_law_script", "_law_spot"] m_cj_hat) (o_cj_up : OkF P w K mg (gx K) 3 (He.ga K "_law_cj_up") ["_law_hat", "_law_total"] m_cj_up) (o_right : OkG P w K mg (gx K) (TBs mg (csK K)) 10 (He.ga K "_law_right") ["_law_turn"] m_right) (o_most_within : OkF P w K mg (gx K) 7 (He.ga K "most_within") ["bound"] m_most_within) (o_is_below : OkF P w K mg (gx K) 7 (He.ga K "is_below") ["number", "bound"] m_is_below) (o_power_for : OkF P w K mg (gx K) 6 (He.ga K "power_for") ["number"] m_power_for) (o_lots_within : OkF P w K mg (gx K) 6 (He.ga K "lots_within") ["lot"] m_lots_within) : OkG P w K mg (gx K) (TBs mg (csK K)) 11 (He.ga K "law") ["_law_script"] m_law := by
  obtain ⟨fd, F⟩ := y.c.def_ 39 (d := d_law) rfl
  obtain ⟨fm, F_met⟩ := y.c.def_ 40 (d := d_met) rfl
  have B_met : Binds K fm ["_law_call"] [] := F_met.bindsN fun _ _ _ _ _ _ us hl => match us, hl with | [_], _ => rfl
  have EX : ExmOk K (gx K) exm := exmBs_ok (exL_at y.x 4 rfl)
  refine ⟨fd, fun base tb => fnG_ok (p := ("law", none)) F s_law rfl rfl fun A outer s H E hgd hr => ?_, F.bindsN fun _ _ _ _ _ _ us hl => match us, hl with | [_], _ => rfl, F.kp, F.bindsA fun _ _ _ _ _ _ us hl => match us, hl with | [_], _ => rfl⟩
  have tk : Takes (cxOf (L2.CX P w) P w K mg base ["_law_script", "_law_spot", "_law_shift", "_law_told", "_law_turn"] "law" (defScope (top 56)) (He.fAd K ("law", none)) (.ref (He.codeOf K ("law", none))) A outer s H E) (WK E) := takes_of rfl rfl rfl rfl
  have nd := s_law.nd
  exact rss_cons (rs_for (passes_of rfl) rfl (ri_range rfl (y.free 3) (ra_cons (re_callB (call_max2 rfl) int2S rfl (y.free 2) boot_max (ra_cons (re_int) (ra_cons (re_callB (call_min2 rfl) int2S rfl (y.free 1) boot_min (ra_cons (re_int) (ra_cons (re_callB call_len lenS rfl (y.free 0) boot_len (ra_cons (re_var 0) (ra_nil))) (ra_nil)))) (ra_nil)))) (ra_nil))) (rg_name 1 nd) (rss_cons (rs_set 2 nd (re_callO o_cj_up hr (y.glo 7) tk (ra_cons (re_callO o_cj_hat hr (y.glo 6) tk (ra_cons (re_var 0) (ra_cons (re_var 1) (ra_nil)))) (ra_cons (re_int) (ra_nil))))) (rss_one (rs_if (rt_cmp (op_neD (Room.u64 hr)) neS (re_lc (own := [("_law_turn", 4)]) rfl nd (ri_range rfl (y.free 3) (ra_cons (re_int) (ra_nil))) (blkOk_by (by kernel_rfl)) (inis_name 4) (by decide) (fun _ _ _ _ _ => rg_name 4 nd) (fun _ _ _ _ _ => rts_one (rt_not (rt_val (re_callG o_right tb hgd hr (y.glo 62) takes0 (ra_cons (re_op op_addA addS (re_var 2) (re_var 4)) (ra_nil)))))) (fun _ _ _ _ _ => re_var 4)) (re_lst (ra_nil))) (rss_one (rs_retV (re_bl))) (rss_nil))))) (rss_cons (rs_own 3 nd (ra_cons (re_met EX (y.glo 31) F_met B_met s_met (by exact fun _ _ _ => h_met y hgd (u_met hr)) rfl (fun _ => rfl) rfl (Or.inl rfl) (tb (He.cT K ("law", none)) (by simp [csK, tf])) rfl (by kernel_rfl) hr (LamX.lamS_by (by kernel_rfl)) rfl (fun _ _ _ _ _ => rfl) (by exact fun A outer s H E f c2 hr => re_callO o_most_within hr (y.glo 56) (takes_of rfl rfl rfl rfl) (ra_cons (re_tup (ra_cons (re_int) (ra_cons (re_int) (ra_nil)))) (ra_nil)))) (ra_nil))) (rss_cons (rs_app 3 (ra_cons (re_met EX (y.glo 31) F_met B_met s_met (by exact fun _ _ _ => h_met y hgd (u_met hr)) rfl (fun _ => rfl) rfl (Or.inl rfl) (tb (He.cT K ("law", none)) (by simp [csK, tf])) rfl (by kernel_rfl) hr (LamX.lamS_by (by kernel_rfl)) rfl (fun _ _ _ _ _ => rfl) (by exact fun A outer s H E f c2 hr => re_callO o_is_below hr (y.glo 54) (takes_of rfl rfl rfl rfl) (ra_cons (re_op op_subA subS (re_op op_powA powS (re_int) (re_int)) (re_int)) (ra_cons (re_tup (ra_cons (re_int) (ra_cons (re_int) (ra_nil)))) (ra_nil))))) (ra_nil))) (rss_cons (rs_app 3 (ra_cons (re_met EX (y.glo 31) F_met B_met s_met (by exact fun _ _ _ => h_met y hgd (u_met hr)) rfl (fun _ => rfl) rfl (Or.inl rfl) (tb (He.cT K ("law", none)) (by simp [csK, tf])) rfl (by kernel_rfl) hr (LamX.lamS_by (by kernel_rfl)) rfl (fun _ _ _ _ _ => rfl) (by exact fun A outer s H E f c2 hr => re_callO o_power_for hr (y.glo 45) (takes_of rfl rfl rfl rfl) (ra_cons (re_op op_subA subS (re_op op_powA powS (re_int) (re_int)) (re_int)) (ra_nil)))) (ra_nil))) (rss_cons (rs_app 3 (ra_cons (re_met EX (y.glo 31) F_met B_met s_met (by exact fun _ _ _ => h_met y hgd (u_met hr)) rfl (fun _ => rfl) rfl (Or.inl rfl) (tb (He.cT K ("law", none)) (by simp [csK, tf])) rfl (by kernel_rfl) hr (LamX.lamS_by (by kernel_rfl)) rfl (fun _ _ _ _ _ => rfl) (by exact fun A outer s H E f c2 hr => re_callO o_lots_within hr (y.glo 33) (takes_of rfl rfl rfl rfl) (ra_cons (re_tup (ra_cons (re_int) (ra_cons (re_int) (ra_cons (re_int) (ra_cons (re_int) (ra_cons (re_int) (ra_cons (re_int) (ra_nil)))))))) (ra_nil)))) (ra_nil))) (rss_one (rs_retF (re_and (re_cmp (op_eqD (Room.u64 hr)) eqS (re_var 3) (re_op op_mulA mulS (re_lst (ra_cons (re_str) (ra_nil))) (re_int))) (re_one (re_cmp (op_eqD (Room.u64 hr)) eqS (re_callO o_most_within hr (y.glo 56) tk (ra_cons (re_tup (ra_cons (re_int) (ra_cons (re_int) (ra_nil)))) (ra_nil))) (re_int))))))))))

theorem w_all (y : HyL K mg) (pg : PgOk P fileS) : OkG P w K mg (gx K) (TBs mg (csK K)) 11 (He.ga K "law") ["_law_script"] m_law := by
  have o_cj_hat := w_cj_hat (P := P) (w := w) y pg 
  have o_cj_up := w_cj_up (P := P) (w := w) y pg 
  have o_cj_turned := w_cj_turned (P := P) (w := w) y pg 
  have o_is_letter := w_is_letter (P := P) (w := w) y pg 
  have o_is_lot := w_is_lot (P := P) (w := w) y pg o_is_letter
  have o_require_lot := w_require_lot (P := P) (w := w) y pg o_is_lot
  have o_require_lots := w_require_lots (P := P) (w := w) y pg o_require_lot
  have o_joined_in := w_joined_in (P := P) (w := w) y pg 
  have o_joined_lot := w_joined_lot (P := P) (w := w) y pg o_require_lots o_joined_in
  have o_common_in := w_common_in (P := P) (w := w) y pg 
  have o_common_lot := w_common_lot (P := P) (w := w) y pg o_require_lots o_common_in
  have o_rest_in := w_rest_in (P := P) (w := w) y pg 
  have o_rest_lot := w_rest_lot (P := P) (w := w) y pg o_require_lots o_rest_in
  have o_within_in := w_within_in (P := P) (w := w) y pg 
  have o_is_within := w_is_within (P := P) (w := w) y pg o_require_lots o_within_in
  have o_are_beside := w_are_beside (P := P) (w := w) y pg o_within_in
  have o_are_apart := w_are_apart (P := P) (w := w) y pg o_require_lots o_are_beside
  have o_lots_within_in := w_lots_within_in (P := P) (w := w) y pg 
  have o_lots_within := w_lots_within (P := P) (w := w) y pg o_require_lot o_lots_within_in
  have o_all_letters := w_all_letters (P := P) (w := w) y pg 
  have o_lots_on := w_lots_on (P := P) (w := w) y pg o_is_lot o_all_letters
  have o_is_whole := w_is_whole (P := P) (w := w) y pg 
  have o_is_integer := w_is_integer (P := P) (w := w) y pg o_is_whole
  have o_require_number := w_require_number (P := P) (w := w) y pg o_is_integer
  have o_power_in := w_power_in (P := P) (w := w) y pg 
  have o_power_for := w_power_for (P := P) (w := w) y pg o_require_number o_power_in
  have o_is_within_numbers := w_is_within_numbers (P := P) (w := w) y pg o_is_whole
  have o_is_bound := w_is_bound (P := P) (w := w) y pg o_is_within_numbers
  have o_require_bound := w_require_bound (P := P) (w := w) y pg o_is_bound
  have o_raised := w_raised (P := P) (w := w) y pg 
  have o_is_below_in := w_is_below_in (P := P) (w := w) y pg o_raised
  have o_is_below := w_is_below (P := P) (w := w) y pg o_require_number o_require_bound o_is_below_in
  have o_most_in := w_most_in (P := P) (w := w) y pg o_is_below_in
  have o_most_within := w_most_within (P := P) (w := w) y pg o_require_bound o_most_in
  have o_least_in := w_least_in (P := P) (w := w) y pg 
  have o_least_terms := w_least_terms (P := P) (w := w) y pg o_require_bound o_least_in
  have o_compared_in := w_compared_in (P := P) (w := w) y pg 
  have o_compare_bounds := w_compare_bounds (P := P) (w := w) y pg o_require_bound o_compared_in
  have o_right := w_right (P := P) (w := w) y pg o_cj_turned o_joined_lot o_common_lot o_rest_lot o_is_within o_are_apart o_lots_within o_lots_on o_power_for o_is_below o_most_within o_least_terms o_compare_bounds
  have o_law := w_law (P := P) (w := w) y pg o_cj_hat o_cj_up o_right o_most_within o_is_below o_power_for o_lots_within
  exact o_law
end
end K03
set_option Elab.async false
set_option linter.all false
set_option maxRecDepth 100000
namespace K03
open PySem PySem.Spec PyProof.Rows L2 Mv
set_option maxHeartbeats 0
def lo0 : List Str := ["CrestError", "InvalidLot", "InvalidOperation", "InvalidNumber", "BILLION", "MOST_TOP", "MOST_BOTTOM", "PAIR", "is_whole", "is_integer", "is_within", "is_within_numbers", "power_in", "raised", "is_below_in", "compared_in", "least_in", "most_in", "is_bound", "require_bound", "require_number", "power_for", "is_below", "compare_bounds", "least_terms", "most_within", "LETTERS", "is_letter", "is_lot", "joined_in"]
def lo1 : List Str := ["common_in", "rest_in", "within_in", "are_beside", "lots_within_in", "all_letters", "require_lot", "require_lots", "joined_lot", "common_lot", "rest_lot", "is_within_lots", "are_apart", "lots_within", "lots_on", "_law_cj_hat", "_law_cj_up", "_law_cj_turned", "_law_met", "_law_right"]
def lo : List Str := lo0 ++ lo1
abbrev R : PySem.W.OpenRow := PySem.W.OpenLaw.row PySem.Challenge.rw_crestjoin_k03_errors_of_lots_and_bounds
abbrev hk : PySem.W.Hook := Mv.hookS 4 fa fn tf ex
def ob (s : PySem.W.SharedT) : He.AlX := Mv.obsS 4 fa fn tf ex (HandSHeadRun.getT s)
theorem ob_eq (s : PySem.W.SharedT) : ob s = hk.obs s.abs := Mv.obsS_eq (HandSHeadRun.getT_eq s)
abbrev qv : Program := PySem.W.view R.prog [0, 56]
theorem run (w : World) : HandSHeadRun.RunEqI R qv hk ob 6000 lo w := by
  unfold HandSHeadRun.RunEqI
  kernel_rfl
end K03
set_option Elab.async false
set_option linter.all false
set_option maxRecDepth 100000
namespace K03
open PySem PySem.Spec PyProof.Rows L2 Mv
/-! the plain law of k03, part d: what is drawn -/
theorem mulC_small {i j : Int} (hi : i.natAbs < 2 ^ 4000) (hj : j.natAbs < 2 ^ 4000) : mulC i j = true := by
  have a := PySem.intBits_le_iff.mpr hi
  have b := PySem.intBits_le_iff.mpr hj
  unfold mulC
  rw [bitsN_eq, bitsN_eq]
  exact Nat.ble_eq_true_of_le (by omega)
theorem pylong_small {i j : Int} (hi : i.natAbs < 2 ^ 4000) (hj : 0 < j) : pylongN i j = false := by
  have a := PySem.intBits_le_iff.mpr hi
  exact (divp_ok hj (by omega)).2
theorem mul_ii {i j : Int} {h : VH} (hi : i.natAbs < 2 ^ 4000) (hj : j.natAbs < 2 ^ 4000) : mulV (.int i) (.int j) h = .ok (.int (i * j)) h := by simp [mulV, mulC_small hi hj]
theorem add_ii {i j : Int} {h : VH} : addV (.int i) (.int j) h = .ok (.int (i + j)) h := rfl
theorem sub_ii {i j : Int} {h : VH} : subV (.int i) (.int j) h = .ok (.int (i - j)) h := rfl
theorem mod_ii {i j : Int} {h : VH} (hj : 0 < j) : modV (.int i) (.int j) h = .ok (.int (i % j)) h := by simp [modV, intV, hj]
theorem fdiv_ii {i j : Int} {h : VH} (hi : i.natAbs < 2 ^ 4000) (hj : 0 < j) : fdivV (.int i) (.int j) h = .ok (.int (i / j)) h := by simp [fdivV, intV, hj, pylong_small hi hj]
theorem p64 : (2 : Nat) ^ 64 < 2 ^ 4000 := by decide +kernel
theorem seqM_nx {a b : MS} {sl sl1 : Sl} {h h1 : VH} (e : a sl h = .nx sl1 h1) : seqM a b sl h = b sl1 h1 := by simp [seqM, e]
theorem seqM_rt {a b : MS} {sl : Sl} {v : VV} {h h1 : VH} (e : a sl h = .rt v h1) : seqM a b sl h = .rt v h1 := by simp [seqM, e]
def O3 (x : Int × Int × Int) : VO := .lst [.int x.1, .int x.2.1, .int x.2.2]
/-- the tables, then hats, at most three -/
def Shp (h : VH) : Prop := ∃ hs : List (Int × Int × Int), h = hT tsL ++ hs.map O3 ∧ hs.length ≤ 3
theorem hT_len : (hT tsL).length = 2 := rfl
theorem Shp.ge {h : VH} (s : Shp h) {n : Nat} {xs : List VV} (hn : h[n]? = some (.lst xs)) : 2 ≤ n := by
  obtain ⟨hs, rfl, _⟩ := s
  match n, hn with
  | 0, hn => cases hn
  | 1, hn => cases hn
  | n + 2, _ => omega
theorem Shp.set {h : VH} (s : Shp h) (n : Nat) (hn : 2 ≤ n) (a b c : Int) : Shp (h.set n (.lst [.int a, .int b, .int c])) := by
  obtain ⟨hs, rfl, l⟩ := s
  refine ⟨hs.set (n - 2) (a, b, c), ?_, by rw [List.length_set]; exact l⟩
  rw [List.set_append_right _ _ (by rw [hT_len]; exact hn), List.map_set, hT_len]
  rfl
/-- a hat at n, from which k draws may be made -/
structure Hat (h : VH) (n k : Nat) : Prop where
  shp : Shp h
  last : h.length = n + 1
  at_ : ∃ a b c : Int, h[n]? = some (.lst [.int a, .int b, .int c]) ∧ (0 ≤ a ∧ a.natAbs < 2 ^ 4000) ∧ (0 ≤ b ∧ b < 2305843009213693951) ∧ 0 ≤ c ∧ c + k < 1099511627776
theorem hat_set {h : VH} {n : Nat} {a b c : Int} {k : Nat} {xs : List VV} (hf : Shp h) (ll : h.length = n + 1) (hn : h[n]? = some (.lst xs)) (ha : 0 ≤ a ∧ a.natAbs < 2 ^ 4000) (hb : 0 ≤ b ∧ b < 2305843009213693951) (hc : 0 ≤ c) (hk : c + k < 1099511627776) : Hat (h.set n (.lst [.int a, .int b, .int c])) n k := by
  have hl := (List.getElem?_eq_some_iff.mp hn).1
  exact ⟨hf.set n (hf.ge hn) a b c, by rw [List.length_set]; exact ll, a, b, c, List.getElem?_set_self hl, ha, hb, hc, hk⟩
theorem Hat.less {h : VH} {n k j : Nat} (t : Hat h n k) (hj : j ≤ k) : Hat h n j := by
  obtain ⟨a, b, c, h1, h2, h3, h4, h5⟩ := t.at_
  exact ⟨t.shp, t.last, a, b, c, h1, h2, h3, h4, by omega⟩
section
variable {h : VH} {n : Nat} {a b c : Int} (hn : h[n]? = some (.lst [.int a, .int b, .int c]))
include hn
theorem ix0 : ixV (.ref n) (.int 0) h = .ok (.int a) h := by simp [ixV, hn, atI, ixN]
theorem ix1 : ixV (.ref n) (.int 1) h = .ok (.int b) h := by simp [ixV, hn, atI, ixN]
theorem ix2 : ixV (.ref n) (.int 2) h = .ok (.int c) h := by simp [ixV, hn, atI, ixN]
end
theorem up_ok {h : VH} {n k : Nat} {t : Int} (ht : Hat h n (k + 1)) (h0 : 0 < t) (h1 : t < 4611686018427387904) : ∃ (i : Int) (h' : VH), m_cj_up [.ref n, .int t] h = .ok (.int i) h' ∧ 0 ≤ i ∧ i < t ∧ Hat h' n k := by
  obtain ⟨a, b, c, hn, ⟨a0, a1⟩, ⟨b0, b1⟩, c0, c1⟩ := ht.at_
  have hl := (List.getElem?_eq_some_iff.mp hn).1
  have big := p64
  have sm : ∀ x : Int, x.natAbs < 2 ^ 64 → x.natAbs < 2 ^ 4000 := fun x hx => Nat.lt_trans hx big
  by_cases ca : 0 < a
  · have i0 := Int.emod_nonneg a (show t ≠ 0 by omega)
    have i1 := Int.emod_lt_of_pos a h0
    have d0 : 0 ≤ a / t := Int.ediv_nonneg a0 (by omega)
    have d1 : a / t ≤ a := Int.ediv_le_self t a0
    have hs := hat_set (a := a / t) (b := b) (c := c) (k := k) ht.shp ht.last hn ⟨d0, by omega⟩ ⟨b0, b1⟩ c0 (by omega)
    refine ⟨a % t, _, ?_, i0, i1, hs⟩
    have gt : gtV (.int a) (.int 0) h = .ok (.bl true) h := by simp [gtV, cmpV, ca]
    simp [m_cj_up, fnM, b_cj_up, startS, view, Slot.view, seqM, ifS, blM, opM, varM, cM, Out.bind, Out.toS, ix0 hn, gt, setM, callM, consA, nilA, intF, mod_ii h0, setIxM, fdiv_ii a1 h0, hn, retV, ixN]
  · have hs := hat_set (a := a) (b := b) (c := c + 1) (k := k) ht.shp ht.last hn ⟨a0, a1⟩ ⟨b0, b1⟩ (by omega) (by omega)
    have hn1 : (h.set n (.lst [.int a, .int b, .int (c + 1)]))[n]? = some (.lst [.int a, .int b, .int (c + 1)]) := List.getElem?_set_self hl
    generalize e1 : h.set n (.lst [.int a, .int b, .int (c + 1)]) = g at hs hn1
    obtain ⟨one, e2⟩ : ∃ one, one = (b + 67867979 * (c + 1)) % 2305843009213693951 := ⟨_, rfl⟩
    have o0 : 0 ≤ one := by rw [e2]; exact Int.emod_nonneg _ (by decide)
    have o1 : one < 2305843009213693951 := by rw [e2]; exact Int.emod_lt_of_pos _ (by decide)
    obtain ⟨sq, e3⟩ : ∃ sq, sq = (one * one + 86028121) % 2305843009213693921 := ⟨_, rfl⟩
    have q0 : 0 ≤ sq := by rw [e3]; exact Int.emod_nonneg _ (by decide)
    have q1 : sq < 2305843009213693921 := by rw [e3]; exact Int.emod_lt_of_pos _ (by decide)
    obtain ⟨two, e4⟩ : ∃ two, two = sq * 15485867 + one + 23 * (c + 1) := ⟨_, rfl⟩
    have t0 : 0 ≤ two := by rw [e4]; omega
    have t1 : two.natAbs < 2 ^ 4000 := by
      have e5 : (2 : Nat) ^ 100 < 2 ^ 4000 := by decide +kernel
      have e6 : two < 1267650600228229401496703205376 := by rw [e4]; omega
      have e7 : (2 : Nat) ^ 100 = 1267650600228229401496703205376 := by decide +kernel
      omega
    have i0 := Int.emod_nonneg (two / 65539) (show t ≠ 0 by omega)
    have i1 := Int.emod_lt_of_pos (two / 65539) h0
    refine ⟨two / 65539 % t, g, ?_, i0, i1, hs⟩
    have e64 : (2 : Nat) ^ 64 = 18446744073709551616 := by decide +kernel
    have gt : gtV (.int a) (.int 0) h = .ok (.bl false) h := by simp [gtV, cmpV, ca]
    have m1 : mulV (.int 67867979) (.int (c + 1)) g = .ok (.int (67867979 * (c + 1))) g := mul_ii (sm _ (by decide +kernel)) (sm _ (by omega))
    have m2 : mulV (.int one) (.int one) g = .ok (.int (one * one)) g := mul_ii (sm _ (by omega)) (sm _ (by omega))
    have m3 : mulV (.int sq) (.int 15485867) g = .ok (.int (sq * 15485867)) g := mul_ii (sm _ (by omega)) (sm _ (by decide +kernel))
    have m4 : mulV (.int 23) (.int (c + 1)) g = .ok (.int (23 * (c + 1))) g := mul_ii (sm _ (by decide +kernel)) (sm _ (by omega))
    have d1 : modV (.int (b + 67867979 * (c + 1))) (.int 2305843009213693951) g = .ok (.int one) g := by rw [e2]; exact mod_ii (by decide)
    have d2 : modV (.int (one * one + 86028121)) (.int 2305843009213693921) g = .ok (.int sq) g := by rw [e3]; exact mod_ii (by decide)
    have f1 : fdivV (.int two) (.int 65539) g = .ok (.int (two / 65539)) g := fdiv_ii t1 (by decide)
    have a4 : addV (.int (sq * 15485867 + one)) (.int (23 * (c + 1))) g = .ok (.int two) g := by rw [e4]; rfl
    have st : setIxM (varM 0) (cM (.int 2)) (opM addV (opM ixV (varM 0) (cM (.int 2))) (cM (.int 1))) [.val (.ref n), .val (.int t), .no, .no, .no] h = .nx [.val (.ref n), .val (.int t), .no, .no, .no] g := by
      rw [← e1]
      simp [setIxM, view, Slot.view, opM, varM, cM, Out.bind, Out.toS, ix2 hn, add_ii, hn, ixN]
    have x1 := ix1 hn1
    have x2 := ix2 hn1
    have l2 : ([.ref n, .int t] : List VV).length = 2 := rfl
    have s0 : startS 5 2 [.ref n, .int t] = [.val (.ref n), .val (.int t), .no, .no, .no] := rfl
    have c1' : ifS (blM (opM gtV (opM ixV (varM 0) (cM (.int 0))) (cM (.int 0)))) (seqM (setM 2 (opM modV (callM intF (consA (opM ixV (varM 0) (cM (.int 0))) (nilA))) (varM 1))) (seqM (setIxM (varM 0) (cM (.int 0)) (opM fdivV (opM ixV (varM 0) (cM (.int 0))) (varM 1))) (retV (varM 2)))) skipM [.val (.ref n), .val (.int t), .no, .no, .no] h = .nx [.val (.ref n), .val (.int t), .no, .no, .no] h := by
      simp [ifS, blM, opM, view, Slot.view, varM, cM, Out.bind, Out.toS, ix0 hn, gt, skipM]
    simp only [m_cj_up, fnM, l2, if_true, b_cj_up, s0]
    rw [seqM_nx c1', seqM_nx st]
    simp [setM, seqM, view, Slot.view, callM, consA, nilA, opM, varM, cM, Out.bind, Out.toS, x1, x2, m1, m2, m3, m4, d1, d2, f1, a4, add_ii, intF, retV, mod_ii h0]

/-! ### the hat -/
theorem abs_lt {x m : Int} (h0 : 0 ≤ x) (h1 : x < m) {k : Nat} (hm : m.natAbs ≤ 2 ^ k) : x.natAbs < 2 ^ k := by omega
theorem hat_ok {h : VH} {ns : List Int} {s : Int} (hf : Shp h) (h3 : h.length ≤ 4) (s0 : 0 ≤ s) (s1 : s < 3) : ∃ h', m_cj_hat [.rol (ns.map VV.int), .int s] h = .ok (.ref h.length) h' ∧ Hat h' h.length 1000000 := by
  have e64 : (2 : Nat) ^ 64 = 18446744073709551616 := by decide +kernel
  have big := p64
  have sm : ∀ x : Int, x.natAbs < 2 ^ 64 → x.natAbs < 2 ^ 4000 := fun x hx => Nat.lt_trans hx big
  have l2 : ([.rol (ns.map VV.int), .int s] : List VV).length = 2 := rfl
  have s0' : startS 5 2 [.rol (ns.map VV.int), .int s] = [.val (.rol (ns.map VV.int)), .val (.int s), .no, .no, .no] := rfl
  -- the cell
  have st1 : ∃ cell : Int, setM 2 (ifM (blM (opM ltV (varM 1) (callM lenF (consA (varM 0) (nilA))))) (callM intF (consA (opM ixV (varM 0) (varM 1)) (nilA))) (opM addV (opM mulV (cM (.int 271)) (varM 1)) (cM (.int 59)))) [.val (.rol (ns.map VV.int)), .val (.int s), .no, .no, .no] h = .nx [.val (.rol (ns.map VV.int)), .val (.int s), .val (.int cell), .no, .no] h := by
    have ln : lenF [.rol (ns.map VV.int)] h = .ok (.int (ns.length : Nat)) h := by simp [lenF]
    by_cases c : s < (ns.length : Nat)
    · have lt : ltV (.int s) (.int (ns.length : Nat)) h = .ok (.bl true) h := by simp [ltV, cmpV, c]
      have hl : s.toNat < ns.length := by omega
      have ix : ixV (.rol (ns.map VV.int)) (.int s) h = .ok (.int ns[s.toNat]) h := by
        have : atI (ns.map VV.int) s = some (.int ns[s.toNat]) := by
          unfold atI ixN
          rw [List.length_map, if_pos s0, if_pos c]
          simp [hl]
        simp [ixV, this]
      exact ⟨ns[s.toNat], by simp [setM, ifM, blM, opM, view, Slot.view, varM, callM, consA, nilA, Out.bind, Out.toS, ln, lt, ix, intF]⟩
    · have lt : ltV (.int s) (.int (ns.length : Nat)) h = .ok (.bl false) h := by simp [ltV, cmpV, c]
      have m : mulV (.int 271) (.int s) h = .ok (.int (271 * s)) h := mul_ii (sm _ (by decide +kernel)) (sm _ (by omega))
      exact ⟨271 * s + 59, by simp [setM, ifM, blM, opM, view, Slot.view, varM, cM, callM, consA, nilA, Out.bind, Out.toS, ln, lt, m, add_ii]⟩
  obtain ⟨cell, st1⟩ := st1
  obtain ⟨M, eM⟩ : ∃ M : Int, M = (10 ^ 50) ^ 8 := ⟨_, rfl⟩
  have M0 : 0 < M := by rw [eM]; decide +kernel
  have M1 : M.natAbs ≤ 2 ^ 4000 := by rw [eM]; decide +kernel
  have pw1 : powV (.int 10) (.int 50) h = .ok (.int (10 ^ 50)) h := by simp [powV, intV, show Nat.ble (bitsN 10 * 50) 134217728 = true by decide +kernel]
  have pw2 : powV (.int (10 ^ 50)) (.int 8) h = .ok (.int M) h := by
    have : Nat.ble (bitsN (10 ^ 50) * 8) 134217728 = true := by decide +kernel
    rw [eM]
    simp only [powV, intV]
    rw [if_pos (by simpa using this)]
    rfl
  have pw3 : powV (.int 10) (.int 16) h = .ok (.int (10 ^ 16)) h := by simp [powV, intV, show Nat.ble (bitsN 10 * 16) 134217728 = true by decide +kernel]
  obtain ⟨great, eg⟩ : ∃ g : Int, g = (if cell < 0 then -cell else cell) % M := ⟨_, rfl⟩
  have g0 : 0 ≤ great := by rw [eg]; exact Int.emod_nonneg _ (by omega)
  have g1 : great < M := by rw [eg]; exact Int.emod_lt_of_pos _ M0
  have md : modV (.int (if cell < 0 then -cell else cell)) (.int M) h = .ok (.int great) h := by rw [eg]; exact mod_ii M0
  have st2 : setM 3 (opM modV (callM intF (consA (callM absF (consA (varM 2) (nilA))) (nilA))) (opM powV (opM powV (cM (.int 10)) (cM (.int 50))) (cM (.int 8)))) [.val (.rol (ns.map VV.int)), .val (.int s), .val (.int cell), .no, .no] h = .nx [.val (.rol (ns.map VV.int)), .val (.int s), .val (.int cell), .val (.int great), .no] h := by
    simp only [setM, view, Slot.view, List.map, opM, callM, consA, nilA, varM, cM, Out.bind, List.getElem?_cons_zero, List.getElem?_cons_succ, absF, intF, pw1, pw2, md, Out.toS, List.set_cons_succ, List.set_cons_zero]
  obtain ⟨r, er⟩ : ∃ r : Int, r = great % 2305843009213693907 := ⟨_, rfl⟩
  have r0 : 0 ≤ r := by rw [er]; exact Int.emod_nonneg _ (by decide)
  have r1 : r < 2305843009213693907 := by rw [er]; exact Int.emod_lt_of_pos _ (by decide)
  have md2 : modV (.int great) (.int 2305843009213693907) h = .ok (.int r) h := by rw [er]; exact mod_ii (by decide)
  obtain ⟨z, ez⟩ : ∃ z : Int, z = if decide (cell < 0) = true then 1 else 0 := ⟨_, rfl⟩
  have z1 : 0 ≤ z ∧ z ≤ 1 := by rw [ez]; split <;> omega
  have lt1 : ltV (.int cell) (.int 0) h = .ok (.bl (decide (cell < 0))) h := rfl
  have m1 : mulV (.int r) (.int 79) h = .ok (.int (r * 79)) h := mul_ii (sm _ (by omega)) (sm _ (by decide +kernel))
  have m2 : mulV (.int 6151) (.int s) h = .ok (.int (6151 * s)) h := mul_ii (sm _ (by decide +kernel)) (sm _ (by omega))
  have m3 : mulV (.int 31) (.int z) h = .ok (.int (31 * z)) h := mul_ii (sm _ (by decide +kernel)) (sm _ (by omega))
  obtain ⟨seed, es⟩ : ∃ x : Int, x = r * 79 + 6151 * s + 31 * z + 37 := ⟨_, rfl⟩
  have st3 : setM 4 (callM intF (consA (opM addV (opM addV (opM addV (opM mulV (opM modV (varM 3) (cM (.int 2305843009213693907))) (cM (.int 79))) (opM mulV (cM (.int 6151)) (varM 1))) (opM mulV (cM (.int 31)) (callM intF (consA (opM ltV (varM 2) (cM (.int 0))) (nilA))))) (cM (.int 37))) (nilA))) [.val (.rol (ns.map VV.int)), .val (.int s), .val (.int cell), .val (.int great), .no] h = .nx [.val (.rol (ns.map VV.int)), .val (.int s), .val (.int cell), .val (.int great), .val (.int seed)] h := by
    have ez2 : view [.val (.rol (ns.map VV.int)), .val (.int s), .val (.int cell), .val (.int great), .no] = [some (.rol (ns.map VV.int)), some (.int s), some (.int cell), some (.int great), none] := rfl
    have a4 : addV (.int (r * 79 + 6151 * s + 31 * z)) (.int 37) h = .ok (.int seed) h := by rw [es]; rfl
    simp only [setM, ez2, callM, consA, nilA, opM, varM, cM, Out.bind, List.getElem?_cons_zero, List.getElem?_cons_succ, md2, m1, m2, lt1, intF, ← ez, m3, add_ii, a4, Out.toS, List.set_cons_succ, List.set_cons_zero]
  obtain ⟨a, ea⟩ : ∃ a : Int, a = if great - 10 ^ 16 > 0 then great - 10 ^ 16 else 0 := ⟨_, rfl⟩
  have a0 : 0 ≤ a ∧ a ≤ great := by
    have : (0 : Int) ≤ 10 ^ 16 := by decide +kernel
    rw [ea]; split <;> omega
  obtain ⟨b, eb⟩ : ∃ b : Int, b = seed % 2305843009213693951 := ⟨_, rfl⟩
  have b0 : 0 ≤ b := by rw [eb]; exact Int.emod_nonneg _ (by decide)
  have b1 : b < 2305843009213693951 := by rw [eb]; exact Int.emod_lt_of_pos _ (by decide)
  have md3 : modV (.int seed) (.int 2305843009213693951) h = .ok (.int b) h := by rw [eb]; exact mod_ii (by decide)
  have mx : maxF [.int 0, .int (great - 10 ^ 16)] h = .ok (.int a) h := by rw [ea]; rfl
  have st4 : retV (newM (consA (callM maxF (consA (cM (.int 0)) (consA (opM subV (varM 3) (opM powV (cM (.int 10)) (cM (.int 16)))) (nilA)))) (consA (opM modV (varM 4) (cM (.int 2305843009213693951))) (consA (cM (.int 0)) (nilA))))) [.val (.rol (ns.map VV.int)), .val (.int s), .val (.int cell), .val (.int great), .val (.int seed)] h = .rt (.ref h.length) (h ++ [.lst [.int a, .int b, .int 0]]) := by
    have f3 : fits 3 = true := rfl
    simp only [retV, newM, consA, callM, nilA, opM, varM, cM, view, Slot.view, List.map, Out.bind, List.getElem?_cons_zero, List.getElem?_cons_succ, pw3, sub_ii, mx, md3, List.length_cons, List.length_nil, Nat.reduceAdd, f3, if_true, Out.toS]
  refine ⟨h ++ [.lst [.int a, .int b, .int 0]], ?_, ?_, by rw [List.length_append]; rfl, a, b, 0, ?_, ⟨a0.1, ?_⟩, ⟨b0, b1⟩, by omega, by omega⟩
  · simp only [m_cj_hat, fnM, l2, if_true, b_cj_hat, s0']
    rw [seqM_nx st1, seqM_nx st2, seqM_nx st3, st4]
  · obtain ⟨hs, rfl, l⟩ := hf
    rw [List.length_append, List.length_map, hT_len] at h3
    exact ⟨hs ++ [(a, b, 0)], by rw [List.map_append, List.append_assoc]; rfl, by rw [List.length_append]; simp; omega⟩
  · rw [List.getElem?_append_right (Nat.le_refl _)]
    simp
  · have := abs_lt g0 g1 M1
    omega
end K03
set_option Elab.async false
set_option linter.all false
set_option maxRecDepth 100000
namespace K03
open PySem PySem.Spec PyProof.Rows L2 Mv
/-! the plain law of k03, part e: every turn is right (the kernel runs the mirror) -/
abbrev H2 (r : VH) : VH := .tbl 8 "_law_right.<locals>.<lambda>" :: .tbl 9 "law.<locals>.<lambda>" :: r
theorem of_map {α β : Type} {f : α → β} {v : β} : ∀ {l : List α} {n : Nat}, l.map f = List.replicate n v → ∀ x ∈ l, f x = v
  | [], _, _, x, hx => by cases hx
  | a :: l, 0, e, x, hx => by cases e
  | a :: l, n + 1, e, x, hx => by
    rw [List.map_cons, List.replicate_succ] at e
    injection e with e1 e2
    rcases List.mem_cons.mp hx with z | z
    · rw [z]; exact e1
    · exact of_map e2 x z
theorem c0 (r : VH) : (List.range 64).map (fun n => m_right [.int ((0 + n : Nat) : Int)] (H2 r)) = List.replicate 64 (.ok (.bl true) (H2 r)) := by kernel_rfl
theorem c1 (r : VH) : (List.range 64).map (fun n => m_right [.int ((64 + n : Nat) : Int)] (H2 r)) = List.replicate 64 (.ok (.bl true) (H2 r)) := by kernel_rfl
theorem c2 (r : VH) : (List.range 64).map (fun n => m_right [.int ((128 + n : Nat) : Int)] (H2 r)) = List.replicate 64 (.ok (.bl true) (H2 r)) := by kernel_rfl
theorem c3 (r : VH) : (List.range 64).map (fun n => m_right [.int ((192 + n : Nat) : Int)] (H2 r)) = List.replicate 64 (.ok (.bl true) (H2 r)) := by kernel_rfl
theorem c4 (r : VH) : (List.range 64).map (fun n => m_right [.int ((256 + n : Nat) : Int)] (H2 r)) = List.replicate 64 (.ok (.bl true) (H2 r)) := by kernel_rfl
theorem c5 (r : VH) : (List.range 64).map (fun n => m_right [.int ((320 + n : Nat) : Int)] (H2 r)) = List.replicate 64 (.ok (.bl true) (H2 r)) := by kernel_rfl
theorem c6 (r : VH) : (List.range 64).map (fun n => m_right [.int ((384 + n : Nat) : Int)] (H2 r)) = List.replicate 64 (.ok (.bl true) (H2 r)) := by kernel_rfl
theorem c7 (r : VH) : (List.range 64).map (fun n => m_right [.int ((448 + n : Nat) : Int)] (H2 r)) = List.replicate 64 (.ok (.bl true) (H2 r)) := by kernel_rfl
theorem c8 (r : VH) : (List.range 64).map (fun n => m_right [.int ((512 + n : Nat) : Int)] (H2 r)) = List.replicate 64 (.ok (.bl true) (H2 r)) := by kernel_rfl
theorem c9 (r : VH) : (List.range 64).map (fun n => m_right [.int ((576 + n : Nat) : Int)] (H2 r)) = List.replicate 64 (.ok (.bl true) (H2 r)) := by kernel_rfl
theorem c10 (r : VH) : (List.range 64).map (fun n => m_right [.int ((640 + n : Nat) : Int)] (H2 r)) = List.replicate 64 (.ok (.bl true) (H2 r)) := by kernel_rfl
theorem c11 (r : VH) : (List.range 64).map (fun n => m_right [.int ((704 + n : Nat) : Int)] (H2 r)) = List.replicate 64 (.ok (.bl true) (H2 r)) := by kernel_rfl
theorem c12 (r : VH) : (List.range 64).map (fun n => m_right [.int ((768 + n : Nat) : Int)] (H2 r)) = List.replicate 64 (.ok (.bl true) (H2 r)) := by kernel_rfl
theorem c13 (r : VH) : (List.range 64).map (fun n => m_right [.int ((832 + n : Nat) : Int)] (H2 r)) = List.replicate 64 (.ok (.bl true) (H2 r)) := by kernel_rfl
theorem c14 (r : VH) : (List.range 64).map (fun n => m_right [.int ((896 + n : Nat) : Int)] (H2 r)) = List.replicate 64 (.ok (.bl true) (H2 r)) := by kernel_rfl
theorem c15 (r : VH) : (List.range 64).map (fun n => m_right [.int ((960 + n : Nat) : Int)] (H2 r)) = List.replicate 64 (.ok (.bl true) (H2 r)) := by kernel_rfl
theorem right_ok (r : VH) (n : Nat) (hn : n < 1024) : m_right [.int (n : Int)] (H2 r) = .ok (.bl true) (H2 r) := by
  have key : ∀ k, k * 64 ≤ n → n < k * 64 + 64 → ((List.range 64).map (fun i => m_right [.int ((k * 64 + i : Nat) : Int)] (H2 r)) = List.replicate 64 (.ok (.bl true) (H2 r))) → m_right [.int (n : Int)] (H2 r) = .ok (.bl true) (H2 r) := fun k h1 h2 e => by
    have := of_map e (n - k * 64) (List.mem_range.mpr (by omega))
    rw [show k * 64 + (n - k * 64) = n by omega] at this
    exact this
  by_cases h0 : n < 64
  · exact key 0 (by omega) (by omega) (c0 r)
  by_cases h1 : n < 128
  · exact key 1 (by omega) (by omega) (c1 r)
  by_cases h2 : n < 192
  · exact key 2 (by omega) (by omega) (c2 r)
  by_cases h3 : n < 256
  · exact key 3 (by omega) (by omega) (c3 r)
  by_cases h4 : n < 320
  · exact key 4 (by omega) (by omega) (c4 r)
  by_cases h5 : n < 384
  · exact key 5 (by omega) (by omega) (c5 r)
  by_cases h6 : n < 448
  · exact key 6 (by omega) (by omega) (c6 r)
  by_cases h7 : n < 512
  · exact key 7 (by omega) (by omega) (c7 r)
  by_cases h8 : n < 576
  · exact key 8 (by omega) (by omega) (c8 r)
  by_cases h9 : n < 640
  · exact key 9 (by omega) (by omega) (c9 r)
  by_cases h10 : n < 704
  · exact key 10 (by omega) (by omega) (c10 r)
  by_cases h11 : n < 768
  · exact key 11 (by omega) (by omega) (c11 r)
  by_cases h12 : n < 832
  · exact key 12 (by omega) (by omega) (c12 r)
  by_cases h13 : n < 896
  · exact key 13 (by omega) (by omega) (c13 r)
  by_cases h14 : n < 960
  · exact key 14 (by omega) (by omega) (c14 r)
  by_cases h15 : n < 1024
  · exact key 15 (by omega) (by omega) (c15 r)
  exact absurd hn (by omega)
end K03
set_option Elab.async false
set_option linter.all false
set_option maxRecDepth 100000
namespace K03
open PySem PySem.Spec PyProof.Rows L2 Mv
/-! the plain law of k03, part f: the greatest bound -/
theorem wh_step {C : MT} {B : MS} {k : Nat} {sl sl1 : Sl} {h h1 h2 : VH} (c : C (view sl) h = .ok true h1) (b : B sl h1 = .nx sl1 h2) : whileGo C B (k + 1) sl h = whileGo C B k sl1 h2 := by simp [whileGo, c, b]
theorem wh_end {C : MT} {B : MS} {k : Nat} {sl : Sl} {h h1 : VH} (c : C (view sl) h = .ok false h1) : whileGo C B (k + 1) sl h = .nx sl h1 := by simp [whileGo, c]
theorem fn_at {n np : Nat} {b : MS} {vs : List VV} {v : VV} {h h1 : VH} {sl : Sl} (hs : startS n np vs = sl) (hl : vs.length = np) (e : b sl h = .rt v h1) : fnM n np b vs h = .ok v h1 := by
  unfold fnM
  rw [if_pos hl, hs, e]
abbrev gB : VV := .tup [.int 10000, .int 1000]
abbrev gC : MT := blM (opM gtV (opM subV (varM 2) (varM 1)) (cM (.int 1)))
abbrev gS : MS := seqM (setM 3 (opM fdivV (opM addV (varM 1) (varM 2)) (cM (.int 2)))) (ifS (blM (callF m_is_below_in (consA (varM 3) (consA (varM 0) (nilA))))) (setM 1 (varM 3)) (setM 2 (varM 3)))
theorem shl_big (h : VH) : shlV (.int 1) (.int 10000) h = .ok (.int ((2 ^ 10000 : Nat) : Int)) h := by
  have b : Nat.ble (bitsN 1 + (10000 : Int).toNat) 134217728 = true := by decide +kernel
  have z : decide ((0 : Int) ≤ 10000) = true := by decide +kernel
  have e : (1 : Int) * 2 ^ (10000 : Int).toNat = ((2 ^ 10000 : Nat) : Int) := by
    rw [Int.one_mul, show (10000 : Int).toNat = 10000 from rfl]
    generalize 10000 = n
    exact (Int.natCast_pow 2 n).symm
  simp only [shlV, intV]
  rw [z, b, e]
  rfl
theorem below_of {c : Int} {R : Nat} {b : Bool} (h : VH) (r : m_raised [.int c, .int 1000] h = .ok (.int (R : Int)) h) (e : decide (R ≤ 2 ^ 10000) = b) : m_is_below_in [.int c, gB] h = .ok (.bl b) h := by
  have sh := shl_big h
  generalize hB : (2 : Nat) ^ 10000 = B at sh e
  refine fn_at (sl := [.val (.int c), .val gB]) rfl rfl ?_
  have v0 : ∀ h, varM 0 (view [.val (.int c), .val gB]) h = .ok (.int c) h := fun h => rfl
  have v1 : ∀ h, varM 1 (view [.val (.int c), .val gB]) h = .ok gB h := fun h => rfl
  have i1 : ixV gB (.int 1) h = .ok (.int 1000) h := rfl
  have i0 : ixV gB (.int 0) h = .ok (.int 10000) h := rfl
  have le : leV (.int (R : Int)) (.int (B : Int)) h = .ok (.bl b) h := by
    show Out.ok (VV.bl (decide ((R : Int) ≤ (B : Int)))) h = _
    rw [← e]
    congr 2
    exact decide_eq_decide.mpr Int.ofNat_le
  simp only [b_is_below_in, retV, opM, callF, consA, nilA, v0, v1, cM, Out.bind, i0, i1, r, sh, le, Out.toS]
theorem st_t {k : Nat} {a b c : Int} {s : Slot} {h : VH} (hc : gC (view [.val gB, .val (.int a), .val (.int b), s]) h = .ok true h) (hm : setM 3 (opM fdivV (opM addV (varM 1) (varM 2)) (cM (.int 2))) [.val gB, .val (.int a), .val (.int b), s] h = .nx [.val gB, .val (.int a), .val (.int b), .val (.int c)] h)
    (bl : m_is_below_in [.int c, gB] h = .ok (.bl true) h) : whileGo gC gS (k + 1) [.val gB, .val (.int a), .val (.int b), s] h = whileGo gC gS k [.val gB, .val (.int c), .val (.int b), .val (.int c)] h := by
  refine wh_step hc ((seqM_nx hm).trans ?_)
  simp only [ifS, blM, callF, consA, nilA, setM, varM, view, List.map, Slot.view, List.getElem?_cons_zero, List.getElem?_cons_succ, Out.bind, Out.toS, bl, if_true, List.set_cons_succ, List.set_cons_zero]
theorem st_f {k : Nat} {a b c : Int} {s : Slot} {h : VH} (hc : gC (view [.val gB, .val (.int a), .val (.int b), s]) h = .ok true h) (hm : setM 3 (opM fdivV (opM addV (varM 1) (varM 2)) (cM (.int 2))) [.val gB, .val (.int a), .val (.int b), s] h = .nx [.val gB, .val (.int a), .val (.int b), .val (.int c)] h)
    (bl : m_is_below_in [.int c, gB] h = .ok (.bl false) h) : whileGo gC gS (k + 1) [.val gB, .val (.int a), .val (.int b), s] h = whileGo gC gS k [.val gB, .val (.int a), .val (.int c), .val (.int c)] h := by
  refine wh_step hc ((seqM_nx hm).trans ?_)
  simp only [ifS, blM, callF, consA, nilA, setM, varM, view, List.map, Slot.view, List.getElem?_cons_zero, List.getElem?_cons_succ, Out.bind, Out.toS, bl, Bool.false_eq_true, if_false, List.set_cons_succ, List.set_cons_zero]
theorem g_p (h : VH) : parM 1 2 (consA (cM (.int 1)) (consA (opM shlV (cM (.int 1)) (opM addV (opM fdivV (opM ixV (varM 0) (cM (.int 0))) (opM ixV (varM 0) (cM (.int 1)))) (cM (.int 1)))) (nilA))) [.val gB, .no, .no, .no] h = .nx [.val gB, .val (.int 1), .val (.int 2048), .no] h := by kernel_rfl
theorem r_0 (h : VH) : m_raised [.int 1024, .int 1000] h = .ok (.int ((1024 ^ 1000 : Nat) : Int)) h := by kernel_rfl
theorem b_0 (h : VH) : m_is_below_in [.int 1024, gB] h = .ok (.bl true) h := below_of h (r_0 h) (by decide +kernel)
theorem c_0 (h : VH) : gC (view [.val gB, .val (.int 1), .val (.int 2048), .no]) h = .ok true h := by kernel_rfl
theorem m_0 (h : VH) : setM 3 (opM fdivV (opM addV (varM 1) (varM 2)) (cM (.int 2))) [.val gB, .val (.int 1), .val (.int 2048), .no] h = .nx [.val gB, .val (.int 1), .val (.int 2048), .val (.int 1024)] h := by kernel_rfl
theorem g_0 (n : Nat) (h : VH) : whileGo gC gS (n + 1) [.val gB, .val (.int 1), .val (.int 2048), .no] h = whileGo gC gS n [.val gB, .val (.int 1024), .val (.int 2048), (.val (.int 1024))] h := st_t (c_0 h) (m_0 h) (b_0 h)
theorem r_1 (h : VH) : m_raised [.int 1536, .int 1000] h = .ok (.int ((1536 ^ 1000 : Nat) : Int)) h := by kernel_rfl
theorem b_1 (h : VH) : m_is_below_in [.int 1536, gB] h = .ok (.bl false) h := below_of h (r_1 h) (by decide +kernel)
theorem c_1 (h : VH) : gC (view [.val gB, .val (.int 1024), .val (.int 2048), (.val (.int 1024))]) h = .ok true h := by kernel_rfl
theorem m_1 (h : VH) : setM 3 (opM fdivV (opM addV (varM 1) (varM 2)) (cM (.int 2))) [.val gB, .val (.int 1024), .val (.int 2048), (.val (.int 1024))] h = .nx [.val gB, .val (.int 1024), .val (.int 2048), .val (.int 1536)] h := by kernel_rfl
theorem g_1 (n : Nat) (h : VH) : whileGo gC gS (n + 1) [.val gB, .val (.int 1024), .val (.int 2048), (.val (.int 1024))] h = whileGo gC gS n [.val gB, .val (.int 1024), .val (.int 1536), (.val (.int 1536))] h := st_f (c_1 h) (m_1 h) (b_1 h)
theorem r_2 (h : VH) : m_raised [.int 1280, .int 1000] h = .ok (.int ((1280 ^ 1000 : Nat) : Int)) h := by kernel_rfl
theorem b_2 (h : VH) : m_is_below_in [.int 1280, gB] h = .ok (.bl false) h := below_of h (r_2 h) (by decide +kernel)
theorem c_2 (h : VH) : gC (view [.val gB, .val (.int 1024), .val (.int 1536), (.val (.int 1536))]) h = .ok true h := by kernel_rfl
theorem m_2 (h : VH) : setM 3 (opM fdivV (opM addV (varM 1) (varM 2)) (cM (.int 2))) [.val gB, .val (.int 1024), .val (.int 1536), (.val (.int 1536))] h = .nx [.val gB, .val (.int 1024), .val (.int 1536), .val (.int 1280)] h := by kernel_rfl
theorem g_2 (n : Nat) (h : VH) : whileGo gC gS (n + 1) [.val gB, .val (.int 1024), .val (.int 1536), (.val (.int 1536))] h = whileGo gC gS n [.val gB, .val (.int 1024), .val (.int 1280), (.val (.int 1280))] h := st_f (c_2 h) (m_2 h) (b_2 h)
theorem r_3 (h : VH) : m_raised [.int 1152, .int 1000] h = .ok (.int ((1152 ^ 1000 : Nat) : Int)) h := by kernel_rfl
theorem b_3 (h : VH) : m_is_below_in [.int 1152, gB] h = .ok (.bl false) h := below_of h (r_3 h) (by decide +kernel)
theorem c_3 (h : VH) : gC (view [.val gB, .val (.int 1024), .val (.int 1280), (.val (.int 1280))]) h = .ok true h := by kernel_rfl
theorem m_3 (h : VH) : setM 3 (opM fdivV (opM addV (varM 1) (varM 2)) (cM (.int 2))) [.val gB, .val (.int 1024), .val (.int 1280), (.val (.int 1280))] h = .nx [.val gB, .val (.int 1024), .val (.int 1280), .val (.int 1152)] h := by kernel_rfl
theorem g_3 (n : Nat) (h : VH) : whileGo gC gS (n + 1) [.val gB, .val (.int 1024), .val (.int 1280), (.val (.int 1280))] h = whileGo gC gS n [.val gB, .val (.int 1024), .val (.int 1152), (.val (.int 1152))] h := st_f (c_3 h) (m_3 h) (b_3 h)
theorem r_4 (h : VH) : m_raised [.int 1088, .int 1000] h = .ok (.int ((1088 ^ 1000 : Nat) : Int)) h := by kernel_rfl
theorem b_4 (h : VH) : m_is_below_in [.int 1088, gB] h = .ok (.bl false) h := below_of h (r_4 h) (by decide +kernel)
theorem c_4 (h : VH) : gC (view [.val gB, .val (.int 1024), .val (.int 1152), (.val (.int 1152))]) h = .ok true h := by kernel_rfl
theorem m_4 (h : VH) : setM 3 (opM fdivV (opM addV (varM 1) (varM 2)) (cM (.int 2))) [.val gB, .val (.int 1024), .val (.int 1152), (.val (.int 1152))] h = .nx [.val gB, .val (.int 1024), .val (.int 1152), .val (.int 1088)] h := by kernel_rfl
theorem g_4 (n : Nat) (h : VH) : whileGo gC gS (n + 1) [.val gB, .val (.int 1024), .val (.int 1152), (.val (.int 1152))] h = whileGo gC gS n [.val gB, .val (.int 1024), .val (.int 1088), (.val (.int 1088))] h := st_f (c_4 h) (m_4 h) (b_4 h)
theorem r_5 (h : VH) : m_raised [.int 1056, .int 1000] h = .ok (.int ((1056 ^ 1000 : Nat) : Int)) h := by kernel_rfl
theorem b_5 (h : VH) : m_is_below_in [.int 1056, gB] h = .ok (.bl false) h := below_of h (r_5 h) (by decide +kernel)
theorem c_5 (h : VH) : gC (view [.val gB, .val (.int 1024), .val (.int 1088), (.val (.int 1088))]) h = .ok true h := by kernel_rfl
theorem m_5 (h : VH) : setM 3 (opM fdivV (opM addV (varM 1) (varM 2)) (cM (.int 2))) [.val gB, .val (.int 1024), .val (.int 1088), (.val (.int 1088))] h = .nx [.val gB, .val (.int 1024), .val (.int 1088), .val (.int 1056)] h := by kernel_rfl
theorem g_5 (n : Nat) (h : VH) : whileGo gC gS (n + 1) [.val gB, .val (.int 1024), .val (.int 1088), (.val (.int 1088))] h = whileGo gC gS n [.val gB, .val (.int 1024), .val (.int 1056), (.val (.int 1056))] h := st_f (c_5 h) (m_5 h) (b_5 h)
theorem r_6 (h : VH) : m_raised [.int 1040, .int 1000] h = .ok (.int ((1040 ^ 1000 : Nat) : Int)) h := by kernel_rfl
theorem b_6 (h : VH) : m_is_below_in [.int 1040, gB] h = .ok (.bl false) h := below_of h (r_6 h) (by decide +kernel)
theorem c_6 (h : VH) : gC (view [.val gB, .val (.int 1024), .val (.int 1056), (.val (.int 1056))]) h = .ok true h := by kernel_rfl
theorem m_6 (h : VH) : setM 3 (opM fdivV (opM addV (varM 1) (varM 2)) (cM (.int 2))) [.val gB, .val (.int 1024), .val (.int 1056), (.val (.int 1056))] h = .nx [.val gB, .val (.int 1024), .val (.int 1056), .val (.int 1040)] h := by kernel_rfl
theorem g_6 (n : Nat) (h : VH) : whileGo gC gS (n + 1) [.val gB, .val (.int 1024), .val (.int 1056), (.val (.int 1056))] h = whileGo gC gS n [.val gB, .val (.int 1024), .val (.int 1040), (.val (.int 1040))] h := st_f (c_6 h) (m_6 h) (b_6 h)
theorem r_7 (h : VH) : m_raised [.int 1032, .int 1000] h = .ok (.int ((1032 ^ 1000 : Nat) : Int)) h := by kernel_rfl
theorem b_7 (h : VH) : m_is_below_in [.int 1032, gB] h = .ok (.bl false) h := below_of h (r_7 h) (by decide +kernel)
theorem c_7 (h : VH) : gC (view [.val gB, .val (.int 1024), .val (.int 1040), (.val (.int 1040))]) h = .ok true h := by kernel_rfl
theorem m_7 (h : VH) : setM 3 (opM fdivV (opM addV (varM 1) (varM 2)) (cM (.int 2))) [.val gB, .val (.int 1024), .val (.int 1040), (.val (.int 1040))] h = .nx [.val gB, .val (.int 1024), .val (.int 1040), .val (.int 1032)] h := by kernel_rfl
theorem g_7 (n : Nat) (h : VH) : whileGo gC gS (n + 1) [.val gB, .val (.int 1024), .val (.int 1040), (.val (.int 1040))] h = whileGo gC gS n [.val gB, .val (.int 1024), .val (.int 1032), (.val (.int 1032))] h := st_f (c_7 h) (m_7 h) (b_7 h)
theorem r_8 (h : VH) : m_raised [.int 1028, .int 1000] h = .ok (.int ((1028 ^ 1000 : Nat) : Int)) h := by kernel_rfl
theorem b_8 (h : VH) : m_is_below_in [.int 1028, gB] h = .ok (.bl false) h := below_of h (r_8 h) (by decide +kernel)
theorem c_8 (h : VH) : gC (view [.val gB, .val (.int 1024), .val (.int 1032), (.val (.int 1032))]) h = .ok true h := by kernel_rfl
theorem m_8 (h : VH) : setM 3 (opM fdivV (opM addV (varM 1) (varM 2)) (cM (.int 2))) [.val gB, .val (.int 1024), .val (.int 1032), (.val (.int 1032))] h = .nx [.val gB, .val (.int 1024), .val (.int 1032), .val (.int 1028)] h := by kernel_rfl
theorem g_8 (n : Nat) (h : VH) : whileGo gC gS (n + 1) [.val gB, .val (.int 1024), .val (.int 1032), (.val (.int 1032))] h = whileGo gC gS n [.val gB, .val (.int 1024), .val (.int 1028), (.val (.int 1028))] h := st_f (c_8 h) (m_8 h) (b_8 h)
theorem r_9 (h : VH) : m_raised [.int 1026, .int 1000] h = .ok (.int ((1026 ^ 1000 : Nat) : Int)) h := by kernel_rfl
theorem b_9 (h : VH) : m_is_below_in [.int 1026, gB] h = .ok (.bl false) h := below_of h (r_9 h) (by decide +kernel)
theorem c_9 (h : VH) : gC (view [.val gB, .val (.int 1024), .val (.int 1028), (.val (.int 1028))]) h = .ok true h := by kernel_rfl
theorem m_9 (h : VH) : setM 3 (opM fdivV (opM addV (varM 1) (varM 2)) (cM (.int 2))) [.val gB, .val (.int 1024), .val (.int 1028), (.val (.int 1028))] h = .nx [.val gB, .val (.int 1024), .val (.int 1028), .val (.int 1026)] h := by kernel_rfl
theorem g_9 (n : Nat) (h : VH) : whileGo gC gS (n + 1) [.val gB, .val (.int 1024), .val (.int 1028), (.val (.int 1028))] h = whileGo gC gS n [.val gB, .val (.int 1024), .val (.int 1026), (.val (.int 1026))] h := st_f (c_9 h) (m_9 h) (b_9 h)
theorem r_10 (h : VH) : m_raised [.int 1025, .int 1000] h = .ok (.int ((1025 ^ 1000 : Nat) : Int)) h := by kernel_rfl
theorem b_10 (h : VH) : m_is_below_in [.int 1025, gB] h = .ok (.bl false) h := below_of h (r_10 h) (by decide +kernel)
theorem c_10 (h : VH) : gC (view [.val gB, .val (.int 1024), .val (.int 1026), (.val (.int 1026))]) h = .ok true h := by kernel_rfl
theorem m_10 (h : VH) : setM 3 (opM fdivV (opM addV (varM 1) (varM 2)) (cM (.int 2))) [.val gB, .val (.int 1024), .val (.int 1026), (.val (.int 1026))] h = .nx [.val gB, .val (.int 1024), .val (.int 1026), .val (.int 1025)] h := by kernel_rfl
theorem g_10 (n : Nat) (h : VH) : whileGo gC gS (n + 1) [.val gB, .val (.int 1024), .val (.int 1026), (.val (.int 1026))] h = whileGo gC gS n [.val gB, .val (.int 1024), .val (.int 1025), (.val (.int 1025))] h := st_f (c_10 h) (m_10 h) (b_10 h)
theorem c_end (h : VH) : gC (view [.val gB, .val (.int 1024), .val (.int 1025), (.val (.int 1025))]) h = .ok false h := by kernel_rfl
theorem g_all (n : Nat) (h : VH) : whileGo gC gS (n + 12) [.val gB, .val (.int 1), .val (.int 2048), .no] h = .nx [.val gB, .val (.int 1024), .val (.int 1025), (.val (.int 1025))] h := by
  rw [show n + 12 = (n + 11) + 1 from rfl, g_0]
  rw [show n + 11 = (n + 10) + 1 from rfl, g_1]
  rw [show n + 10 = (n + 9) + 1 from rfl, g_2]
  rw [show n + 9 = (n + 8) + 1 from rfl, g_3]
  rw [show n + 8 = (n + 7) + 1 from rfl, g_4]
  rw [show n + 7 = (n + 6) + 1 from rfl, g_5]
  rw [show n + 6 = (n + 5) + 1 from rfl, g_6]
  rw [show n + 5 = (n + 4) + 1 from rfl, g_7]
  rw [show n + 4 = (n + 3) + 1 from rfl, g_8]
  rw [show n + 3 = (n + 2) + 1 from rfl, g_9]
  rw [show n + 2 = (n + 1) + 1 from rfl, g_10]
  exact wh_end (c_end h)
theorem g_w (h : VH) : whileM (fun _ _ => 100000) gC gS [.val gB, .val (.int 1), .val (.int 2048), .no] h = .nx [.val gB, .val (.int 1024), .val (.int 1025), (.val (.int 1025))] h := g_all 99988 h
theorem most_in (h : VH) : m_most_in [gB] h = .ok (.int 1024) h := fn_at (sl := [.val gB, .no, .no, .no]) rfl rfl ((seqM_nx (g_p h)).trans ((seqM_nx (g_w h)).trans rfl))
theorem require (h : VH) : m_require_bound [gB] h = .ok .non h := by kernel_rfl
theorem call1 {f : MF} {a : ME} {sv : Sv} {h h1 : VH} {u : VV} (e : a sv h = .ok u h1) : callF f (consA a nilA) sv h = f [u] h1 := by simp only [callF, consA, nilA, e, Out.bind]
theorem drop_nx {a : ME} {sl : Sl} {h h1 : VH} {u : VV} (e : a (view sl) h = .ok u h1) : dropM a sl h = .nx sl h1 := by simp only [dropM, e, Out.toS]
theorem ret_rt {a : ME} {sl : Sl} {h h1 : VH} {u : VV} (e : a (view sl) h = .ok u h1) : retV a sl h = .rt u h1 := by simp only [retV, e, Out.toS]
theorem most (h : VH) : m_most_within [gB] h = .ok (.int 1024) h :=
  fn_at (sl := [.val gB]) rfl rfl ((seqM_nx (drop_nx ((call1 (h1 := h) (u := gB) rfl).trans (require h)))).trans (ret_rt ((call1 (h1 := h) (u := gB) rfl).trans (most_in h))))
end K03
set_option Elab.async false
set_option linter.all false
set_option maxRecDepth 100000
namespace K03
open PySem PySem.Spec PyProof.Rows L2 Mv
/-! the plain law of k03: the law -/
theorem ifS_no {c : MT} {m : MS} {sl : Sl} {h h1 : VH} (e : c (view sl) h = .ok false h1) : ifS c m skipM sl h = .nx sl h1 := by simp [ifS, e, Out.toS, skipM]
theorem set_at {i : Nat} {a : ME} {sl : Sl} {h h1 : VH} {v : VV} (e : a (view sl) h = .ok v h1) : setM i a sl h = .nx (sl.set i (.val v)) h1 := by simp only [setM, e, Out.toS]
theorem forGo_nx {mg : MG} {b : MS} {v : VV} {vs : List VV} {sl sl0 sl1 : Sl} {asg : List (Nat × VV)} {h h1 : VH} (g : mg v = some asg) (st : setsS asg sl = sl0) (e : b sl0 h = .nx sl1 h1) : forGo mg b (v :: vs) sl h = forGo mg b vs sl1 h1 := by
  conv => lhs; unfold forGo
  simp only [g, st, e]
theorem forM_at2 {mi : MI} {mg : MG} {b : MS} {sl sl1 : Sl} {h h1 h2 : VH} {items : List VV} (e : mi (view sl) h = .ok items h1) (g : forGo mg b items sl h1 = .nx sl1 h2) : Mv.forM mi mg b sl h = .nx sl1 h2 := by
  simp only [Mv.forM, e, Out.toS, g]
theorem range_at {m : MA} {sv : Sv} {h : VH} {d : Nat} (e : m sv h = .ok [.int (d : Int)] h) (hd : d ≤ 3000) : rangeI m sv h = .ok (iota 0 d) h := by
  have h1 : decide ((d : Int) < 4611686018427387904) = true := decide_eq_true (by omega)
  have h2 : decide (-4611686018427387904 ≤ (d : Int)) = true := decide_eq_true (by omega)
  simp only [rangeI, e, Out.bind, h1, h2, Bool.and_self, if_true, Int.toNat_natCast]
/-- a comprehension of which no item is taken -/
theorem lc_none {sv : Sv} {mg : MG} {t : MT} {e : ME} {h : VH} : ∀ {items : List VV}, (∀ v ∈ items, ∃ asg, mg v = some asg ∧ t (setsV asg sv) h = .ok false h) → lcGo sv mg t e items h = .ok [] h
  | [], _ => rfl
  | v :: r, hv => by
    obtain ⟨asg, e1, e2⟩ := hv v (List.mem_cons_self ..)
    unfold lcGo
    simp only [e1, e2, Out.nox, Out.bind, Bool.false_eq_true, if_false]
    exact lc_none fun u hu => hv u (List.mem_cons_of_mem _ hu)
theorem iota_mem : ∀ {n : Nat} {lo : Int} {v : VV}, v ∈ iota lo n → ∃ j : Int, v = .int j ∧ lo ≤ j ∧ j < lo + n
  | 0, _, _, h => by cases h
  | n + 1, lo, v, h => by
    rcases List.mem_cons.mp h with z | z
    · exact ⟨lo, z, by omega, by omega⟩
    · obtain ⟨j, e, h1, h2⟩ := iota_mem z
      exact ⟨j, e, by omega, by omega⟩
theorem Shp.tabs {h : VH} (s : Shp h) : ∃ r, h = H2 r := by
  obtain ⟨hs, rfl, _⟩ := s
  exact ⟨hs.map O3, rfl⟩
abbrev rngI : MI := rangeI (consA (callM maxF (consA (cM (.int 1)) (consA (callM minF (consA (cM (.int 3)) (consA (callM lenF (consA (varM 0) (nilA))) (nilA)))) (nilA)))) (nilA))
abbrev setB : MS := setM 2 (callF m_cj_up (consA (callF m_cj_hat (consA (varM 0) (consA (varM 1) (nilA)))) (consA (cM (.int 1000)) (nilA))))
abbrev ifB : MS := ifS (blM (opM (eqV true) (lcM (rangeI (consA (cM (.int 14)) (nilA))) (nameG 4) [4] (notT (blM (callF m_right (consA (opM addV (varM 2) (varM 4)) (nilA))))) (varM 4)) (lstM (nilA)))) (retV (cM (.bl false))) (skipM)
abbrev ouB : MS := seqM setB ifB
abbrev R0 : MS := ownM 3 (consA (lamM 1 9 "law.<locals>.<lambda>" "fine" exm hs_met (callF m_most_within (consA (tupM (consA (cM (.int 10000)) (consA (cM (.int 1000)) (nilA)))) (nilA)))) (nilA))
abbrev R1 : MS := appM 3 (consA (lamM 1 9 "law.<locals>.<lambda>" "fine" exm hs_met (callF m_is_below (consA (opM subV (opM powV (cM (.int 10)) (cM (.int 9))) (cM (.int 1))) (consA (tupM (consA (cM (.int 10000)) (consA (cM (.int 1000)) (nilA)))) (nilA))))) (nilA))
abbrev R2 : MS := appM 3 (consA (lamM 1 9 "law.<locals>.<lambda>" "fine" exm hs_met (callF m_power_for (consA (opM subV (opM powV (cM (.int 10)) (cM (.int 9))) (cM (.int 1))) (nilA)))) (nilA))
abbrev R3 : MS := appM 3 (consA (lamM 1 9 "law.<locals>.<lambda>" "fine" exm hs_met (callF m_lots_within (consA (tupM (consA (cM (.int 0)) (consA (cM (.int 1)) (consA (cM (.int 2)) (consA (cM (.int 3)) (consA (cM (.int 4)) (consA (cM (.int 5)) (nilA)))))))) (nilA)))) (nilA))
abbrev LM : ME := lamM 1 9 "law.<locals>.<lambda>" "fine" exm hs_met (callF m_most_within (consA (tupM (consA (cM (.int 10000)) (consA (cM (.int 1000)) (nilA)))) (nilA)))
abbrev EA : ME := opM (eqV false) (varM 3) (opM mulV (lstM (consA (cM (.str "fine")) (nilA))) (cM (.int 4)))
abbrev EB : ME := opM (eqV false) (callF m_most_within (consA (tupM (consA (cM (.int 10000)) (consA (cM (.int 1000)) (nilA)))) (nilA))) (cM (.int 1024))
abbrev restB : MS := seqM R0 (seqM R1 (seqM R2 (seqM R3 (retF (andV (opM (eqV false) (varM 3) (opM mulV (lstM (consA (cM (.str "fine")) (nilA))) (cM (.int 4)))) (opM (eqV false) (callF m_most_within (consA (tupM (consA (cM (.int 10000)) (consA (cM (.int 1000)) (nilA)))) (nilA))) (cM (.int 1024))))))))
theorem lm_ok (sv : Sv) (r : VH) : LM sv (H2 r) = .ok (.str "fine") (H2 r) := by
  have e : callF m_most_within (consA (tupM (consA (cM (.int 10000)) (consA (cM (.int 1000)) (nilA)))) (nilA)) sv (H2 r) = .ok (.int 1024) (H2 r) := (call1 (h1 := H2 r) (u := gB) rfl).trans (most (H2 r))
  have t : (H2 r)[1]? = some (.tbl 9 "law.<locals>.<lambda>") := rfl
  unfold LM lamM
  simp only [t, e, and_self, if_true]
theorem own1 {i : Nat} {a : ME} {sl : Sl} {h h1 : VH} {v : VV} (e : a (view sl) h = .ok v h1) : ownM i (consA a nilA) sl h = .nx (sl.set i (.own [v])) h1 := by
  have f : fits 1 = true := rfl
  simp only [ownM, consA, nilA, e, Out.bind, Out.toS, List.length_cons, List.length_nil, Nat.zero_add, f, if_true]
theorem op_at {f : V2} {a b : ME} {sv : Sv} {h h1 h2 : VH} {u v : VV} (e : a sv h = .ok u h1) (e2 : b sv h1 = .ok v h2) : opM f a b sv h = f u v h2 := by simp only [opM, e, e2, Out.bind]
theorem and_at {a b : ME} {sv : Sv} {h h1 : VH} {r : Out VV} (e : a sv h = .ok (.bl true) h1) (e2 : b sv h1 = r) : andV a b sv h = r := by simp only [andV, e, Out.bind, e2]
theorem retF_rt {a : ME} {sl : Sl} {h h1 : VH} {u : VV} (e : a (viewF sl) h = .ok u h1) : retF a sl h = .rt u h1 := by simp only [retF, e, Out.nox, Out.toS]
theorem r0_ok (r : VH) (v0 s1 s2 s4 : Slot) : R0 [v0, s1, s2, .no, s4] (H2 r) = .nx [v0, s1, s2, .own [.str "fine"], s4] (H2 r) := own1 (lm_ok _ r)
theorem r1_ok (r : VH) (v0 s1 s2 s4 : Slot) : R1 [v0, s1, s2, .own [.str "fine"], s4] (H2 r) = .nx [v0, s1, s2, .own [.str "fine", .str "fine"], s4] (H2 r) := by kernel_rfl
theorem r2_ok (r : VH) (v0 s1 s2 s4 : Slot) : R2 [v0, s1, s2, .own [.str "fine", .str "fine"], s4] (H2 r) = .nx [v0, s1, s2, .own [.str "fine", .str "fine", .str "fine"], s4] (H2 r) := by kernel_rfl
theorem r3_0  (v0 s1 s2 s4 : Slot) : R3 [v0, s1, s2, .own [.str "fine", .str "fine", .str "fine"], s4] (H2 []) = .nx [v0, s1, s2, .own [.str "fine", .str "fine", .str "fine", .str "fine"], s4] (H2 []) := by kernel_rfl
theorem r3_1 (x : Int × Int × Int) (v0 s1 s2 s4 : Slot) : R3 [v0, s1, s2, .own [.str "fine", .str "fine", .str "fine"], s4] (H2 [O3 x]) = .nx [v0, s1, s2, .own [.str "fine", .str "fine", .str "fine", .str "fine"], s4] (H2 [O3 x]) := by kernel_rfl
theorem r3_2 (x y : Int × Int × Int) (v0 s1 s2 s4 : Slot) : R3 [v0, s1, s2, .own [.str "fine", .str "fine", .str "fine"], s4] (H2 [O3 x, O3 y]) = .nx [v0, s1, s2, .own [.str "fine", .str "fine", .str "fine", .str "fine"], s4] (H2 [O3 x, O3 y]) := by kernel_rfl
theorem r3_3 (x y z : Int × Int × Int) (v0 s1 s2 s4 : Slot) : R3 [v0, s1, s2, .own [.str "fine", .str "fine", .str "fine"], s4] (H2 [O3 x, O3 y, O3 z]) = .nx [v0, s1, s2, .own [.str "fine", .str "fine", .str "fine", .str "fine"], s4] (H2 [O3 x, O3 y, O3 z]) := by kernel_rfl
theorem r3_ok (hs : List (Int × Int × Int)) (l : hs.length ≤ 3) (v0 s1 s2 s4 : Slot) : R3 [v0, s1, s2, .own [.str "fine", .str "fine", .str "fine"], s4] (H2 (hs.map O3)) = .nx [v0, s1, s2, .own [.str "fine", .str "fine", .str "fine", .str "fine"], s4] (H2 (hs.map O3)) := by
  match hs, l with
  | [], _ => exact r3_0 v0 s1 s2 s4
  | [x], _ => exact r3_1 x v0 s1 s2 s4
  | [x, y], _ => exact r3_2 x y v0 s1 s2 s4
  | [x, y, z], _ => exact r3_3 x y z v0 s1 s2 s4
  | _ :: _ :: _ :: _ :: _, l => exact absurd l (by simp)
theorem ea_ok (r : VH) (v0 s1 s2 s4 : Slot) : EA (viewF [v0, s1, s2, .own [.str "fine", .str "fine", .str "fine", .str "fine"], s4]) (H2 r) = .ok (.bl true) (H2 r) := by kernel_rfl
theorem eq_1024 (h : VH) : Mv.eqV false (.int 1024) (.int 1024) h = .ok (.bl true) h := rfl
theorem eb_ok (sv : Sv) (r : VH) : EB sv (H2 r) = .ok (.bl true) (H2 r) := (op_at (h2 := H2 r) (v := .int 1024) ((call1 (h1 := H2 r) (u := gB) rfl).trans (most (H2 r))) rfl).trans (eq_1024 (H2 r))
theorem fin_ok (hs : List (Int × Int × Int)) (l : hs.length ≤ 3) (v0 s1 s2 s4 : Slot) : restB [v0, s1, s2, .no, s4] (H2 (hs.map O3)) = .rt (.bl true) (H2 (hs.map O3)) := by
  have r3 := r3_ok hs l v0 s1 s2 s4
  generalize hs.map O3 = r at r3 ⊢
  refine (seqM_nx (r0_ok r v0 s1 s2 s4)).trans ((seqM_nx (r1_ok r v0 s1 s2 s4)).trans ((seqM_nx (r2_ok r v0 s1 s2 s4)).trans ((seqM_nx r3).trans ?_)))
  exact retF_rt (and_at (ea_ok r v0 s1 s2 s4) (eb_ok _ r))
theorem turn_ok {h : VH} (s : Shp h) {v : Int} (h0 : 0 ≤ v) (h1 : v < 1014) : m_right [.int v] h = .ok (.bl true) h := by
  obtain ⟨r, rfl⟩ := s.tabs
  obtain ⟨n, rfl⟩ : ∃ n : Nat, v = (n : Int) := ⟨v.toNat, by omega⟩
  exact right_ok r n (by omega)
theorem if_ok {h : VH} (sh : Shp h) {v : Int} (h0 : 0 ≤ v) (h1 : v < 1000) (v0 s1 s4 : Slot) : ifB [v0, s1, .val (.int v), .no, s4] h = .nx [v0, s1, .val (.int v), .no, s4] h := by
  refine ifS_no ?_
  have go : lcGo (wipeS (view [v0, s1, .val (.int v), .no, s4]) [4]) (nameG 4) (notT (blM (callF m_right (consA (opM addV (varM 2) (varM 4)) (nilA))))) (varM 4) (iota 0 14) h = .ok [] h := lc_none fun u hu => by
    obtain ⟨j, rfl, j0, j1⟩ := iota_mem hu
    refine ⟨[(4, .int j)], rfl, ?_⟩
    have t := turn_ok sh (v := v + j) (by omega) (by omega)
    have v2 : ∀ h, varM 2 (setsV [(4, .int j)] (wipeS (view [v0, s1, .val (.int v), .no, s4]) [4])) h = .ok (.int v) h := fun h => rfl
    have v4 : ∀ h, varM 4 (setsV [(4, .int j)] (wipeS (view [v0, s1, .val (.int v), .no, s4]) [4])) h = .ok (.int j) h := fun h => rfl
    simp only [notT, blM, callF, consA, nilA, opM, v2, v4, Out.bind, add_ii, t]
    rfl
  have it : rangeI (consA (cM (.int 14)) (nilA)) (view [v0, s1, .val (.int v), .no, s4]) h = .ok (iota 0 14) h := rfl
  have lc : lcM (rangeI (consA (cM (.int 14)) (nilA))) (nameG 4) [4] (notT (blM (callF m_right (consA (opM addV (varM 2) (varM 4)) (nilA))))) (varM 4) (view [v0, s1, .val (.int v), .no, s4]) h = .ok (.lst []) h := by
    have f14 : fits (iota 0 14).length = true := rfl
    simp only [lcM, it, Out.bind, f14, if_true, go]
  have nl : ∀ sv, lstM nilA sv h = .ok (.lst []) h := fun sv => rfl
  have ne : Mv.eqV true (.lst []) (.lst []) h = .ok (.bl false) h := rfl
  simp only [blM, opM, lc, nl, Out.bind, ne]
theorem ou_ok {ns : List Int} {h : VH} {s : Int} {s2 s4 : Slot} (sh : Shp h) (l : h.length ≤ 4) (s0 : 0 ≤ s) (s1 : s < 3) : ∃ i h1, ouB [.val (.rol (ns.map VV.int)), .val (.int s), s2, .no, s4] h = .nx [.val (.rol (ns.map VV.int)), .val (.int s), .val (.int i), .no, s4] h1 ∧ Shp h1 ∧ h1.length = h.length + 1 := by
  obtain ⟨h1, e1, t1⟩ := hat_ok (ns := ns) (s := s) sh l s0 s1
  obtain ⟨i, h2, e2, i0, i1, t2⟩ := up_ok (k := 0) (t := 1000) (t1.less (by omega)) (by omega) (by omega)
  have st : setB [.val (.rol (ns.map VV.int)), .val (.int s), s2, .no, s4] h = .nx [.val (.rol (ns.map VV.int)), .val (.int s), .val (.int i), .no, s4] h2 := by
    refine set_at ?_
    have v0 : ∀ h, varM 0 (view [.val (.rol (ns.map VV.int)), .val (.int s), s2, .no, s4]) h = .ok (.rol (ns.map VV.int)) h := fun h => rfl
    have v1 : ∀ h, varM 1 (view [.val (.rol (ns.map VV.int)), .val (.int s), s2, .no, s4]) h = .ok (.int s) h := fun h => rfl
    simp only [callF, consA, nilA, v0, v1, cM, Out.bind, e1, e2]
  exact ⟨i, h2, (seqM_nx st).trans (if_ok t2.shp i0 i1 _ _ _), t2.shp, t2.last⟩
theorem ou_go {ns : List Int} : ∀ (c : Nat) {h : VH} (s : Int) (s1 s2 s4 : Slot), Shp h → 0 ≤ s → (h.length : Int) = 2 + s → s + c ≤ 3 → ∃ s1' s2' h', forGo (nameG 1) ouB (iota s c) [.val (.rol (ns.map VV.int)), s1, s2, .no, s4] h = .nx [.val (.rol (ns.map VV.int)), s1', s2', .no, s4] h' ∧ Shp h'
  | 0, h, s, s1, s2, s4, sh, _, _, _ => ⟨s1, s2, h, rfl, sh⟩
  | c + 1, h, s, s1, s2, s4, sh, s0, l, lc => by
    obtain ⟨i, h1, e1, sh1, l1⟩ := ou_ok (ns := ns) (s := s) (s2 := s2) (s4 := s4) sh (by omega) s0 (by omega)
    obtain ⟨a, b, h2, e2, sh2⟩ := ou_go c (h := h1) (s + 1) (.val (.int s)) (.val (.int i)) s4 sh1 (by omega) (by omega) (by omega)
    exact ⟨a, b, h2, (forGo_nx (asg := [(1, .int s)]) rfl rfl e1).trans e2, sh2⟩
theorem rng_ok (ns : List Int) (h : VH) : ∃ t : Nat, t ≤ 3 ∧ rngI (view [.val (.rol (ns.map VV.int)), .no, .no, .no, .no]) h = .ok (iota 0 t) h := by
  obtain ⟨L, eL⟩ : ∃ L : Int, L = (ns.length : Int) := ⟨_, rfl⟩
  have ln : lenF [.rol (ns.map VV.int)] h = .ok (.int L) h := by simp [lenF, eL]
  have mn0 : minF [.int 3, .int L] h = .ok (.int (if L < 3 then L else 3)) h := rfl
  obtain ⟨a, mn, ha⟩ : ∃ a : Int, minF [.int 3, .int L] h = .ok (.int a) h ∧ a ≤ 3 := by
    by_cases c : L < 3
    · exact ⟨L, by rw [mn0]; simp [c], by omega⟩
    · exact ⟨3, by rw [mn0]; simp [c], by omega⟩
  have mx0 : maxF [.int 1, .int a] h = .ok (.int (if a > 1 then a else 1)) h := rfl
  obtain ⟨b, mx, hb⟩ : ∃ b : Int, maxF [.int 1, .int a] h = .ok (.int b) h ∧ 0 ≤ b ∧ b ≤ 3 := by
    by_cases c : a > 1
    · exact ⟨a, by rw [mx0]; simp [c], by omega⟩
    · exact ⟨1, by rw [mx0]; simp [c], by omega⟩
  obtain ⟨t, rfl⟩ : ∃ t : Nat, b = (t : Int) := ⟨b.toNat, by omega⟩
  refine ⟨t, by omega, range_at ?_ (by omega)⟩
  have vw : view [.val (.rol (ns.map VV.int)), .no, .no, .no, .no] = [some (.rol (ns.map VV.int)), none, none, none, none] := rfl
  simp only [vw, consA, nilA, callM, cM, varM, List.getElem?_cons_zero, Out.bind, ln, mn, mx]
theorem law_true : ∀ ns : List Int, ns.length ≤ 63 → ∃ h, m_law [.rol (ns.map VV.int)] (hT tsL) = .ok (.bl true) h := by
  intro ns _
  obtain ⟨t, ht, er⟩ := rng_ok ns (hT tsL)
  obtain ⟨a, b, h, e, sh⟩ := ou_go (ns := ns) t (h := hT tsL) 0 .no .no .no ⟨[], rfl, by simp⟩ (by omega) (by rw [hT_len]; rfl) (by omega)
  obtain ⟨hs, rfl, hl⟩ := sh
  refine ⟨H2 (hs.map O3), fn_at (sl := [.val (.rol (ns.map VV.int)), .no, .no, .no, .no]) rfl rfl ?_⟩
  have st : Mv.forM rngI (nameG 1) ouB [.val (.rol (ns.map VV.int)), .no, .no, .no, .no] (hT tsL) = .nx [.val (.rol (ns.map VV.int)), a, b, .no, .no] (H2 (hs.map O3)) := forM_at2 er e
  exact (seqM_nx st).trans (fin_ok hs hl _ _ _ _)
end K03
set_option Elab.async false
set_option linter.all false
set_option maxRecDepth 100000
namespace K03
open PySem PySem.Spec PyProof.Rows L2 Mv
end K03
open PySem PySem.W PySem.Calls PyProof.Rows
set_option maxHeartbeats 0
theorem PySem.Challenge.cw_crestjoin_k03_errors_of_lots_and_bounds_holds : PySem.Challenge.rw_crestjoin_k03_errors_of_lots_and_bounds.Holds := by
  w_on; o_law
  refine HandSHeadRun.head_imp (r := OpenLaw.row PySem.Challenge.rw_crestjoin_k03_errors_of_lots_and_bounds) (q := K03.qv) (H := K03.hk) (ob := K03.ob) (M := 6000) (loose := K03.lo) (d := HandSHeadRun.topDef (OpenLaw.row PySem.Challenge.rw_crestjoin_k03_errors_of_lots_and_bounds).prog 56) (kwd := []) K03.ob_eq K03.run (by kernel_rfl) (by kernel_rfl) (by kernel_rfl) (by rfl) (by first | assumption | decide +kernel) (by decide +kernel) ⟨rfl, rfl, rfl, rfl, rfl, by decide +kernel⟩ ?hw ?hc
  case hw => w_witness2
  case hc =>
    refine Mv.walk_mvT (l := PySem.Challenge.rw_crestjoin_k03_errors_of_lots_and_bounds) (n := 63) (k := 11) (x := "_law_script") (mf := K03.m_law) (ts := K03.tsL) rfl (by decide) (by kernel_rfl) ⟨rfl, by decide, by decide⟩ (fun w mg f h Y G e => ?_) K03.law_true
    obtain ⟨K, KX, c⟩ := Y
    have en : (HandSHeadRun.topDef (OpenLaw.row PySem.Challenge.rw_crestjoin_k03_errors_of_lots_and_bounds).prog 56).name = ("law" : PySem.Str) := by kernel_rfl
    rw [en] at e
    have y : K03.HyL K mg := ⟨c.t.d, c.more, h, KX, G⟩
    have e2 := e.symm.trans (y.glo 63)
    cases e2
    refine ⟨K, K03.gx K, K03.csK K, KX, fun p hp => ?_, fun p hp => ?_, fun p hp => ?_, rfl, of_decide_eq_true (Mv.exL_at y.x 5 rfl), K03.w_all y ⟨by decide +kernel, by decide +kernel⟩⟩
    · obtain ⟨t, ht, rfl⟩ := List.mem_map.mp hp
      exact c.empty t ht
    · obtain ⟨t, ht, rfl⟩ := List.mem_map.mp hp
      exact c.out t ht
    · obtain ⟨t, ht, rfl⟩ := List.mem_map.mp hp
      exact PySem.W.codeHd_of_K KX (c.hd t ht)
