import PyProof.Rows.All
import Wide.All
import OpenK.AllK
import Wide.FinOn
import HandS.ForMost
import HandS.Lambda
import HandS.Slots
import HandS.Exc
import HandS.TupAny
import HandS.TupMul
import HandS.Wide
import HandS.WideBits
import HandS.IsInst
import HandS.Gcd
import HandS.SortInts
import HandS.Deep
import HandS.Style
import HandS.More
import HandS.SlotsOwn
import KE.KStar
import HandS.Zip
import HandS.ExcOwn
import HandS.CallSlots
import HandS.Defaults
import HandS.Strs
import HandS.SetFor
import HandS.DictComp
import HandS.Dict
import HandS.List
import HandS.Comp
import HandS.HeadHook1
import HandS.HeadHook2
import HandS.HeadHook4
import KE.KSortTup
import HandS.Sort
import HandS.SortOrd
import HandS.NamedTupSort
import HandS.TupSets
import HandS.TryMany
import HandS.ExcField
import HandS.CallLocal
import KE.KExcSuper
import HandS.EndBits
import HandS.EndTab
import HandS.RaiseMore
import HandS.TupLen
import HandS.DictTup
import HandS.Iter
import HandS.Conv
import KE.KDictSum
import KE.GoesMore
import PyProof.Draws
import PyProof.EnumMake
import HandS.Star
import PyProof.Rows.TupDisplay
import KE.IntBitsLaws
import HandS.Text
import PyProof.TupleOfSeq
import PyProof.TupleOfGen
import KE.KDictWalk
import KE.KDictList
import HandS.SortKw
import PyProof.WalkInts
import KE.KMinKey
import HandS.SetBool
import PyProof.DictTable
import KE.KDictCopyH
import PyProof.SumAny
import PyProof.WalksS
import HandS.FStr
import PyProof.DictMoreH
import HandS.ExcValue
import KE.KNest
import HandS.Property
import PySem.Challenge.RW_crestjoin_k45_errors_of_pieces
import KE.KStateDown
import HandS.Ends
import HandS.HeadEnd
import HandS.Head0
import HandS.Head1
import HandS.Head2
import HandS.Head3
set_option Elab.async false
set_option linter.all false
set_option maxRecDepth 100000
/-! Mv, part A: value trees, the relation to the abstract heap, outcomes. -/
namespace Mv
open PySem PySem.Spec PyProof.Rows L2

/-! ### value trees -/
/-- built-in classes as values -/
inductive BTy where
  | none | bool | int | str | tuple | list | dict | set
def BTy.name : BTy → String
  | .none => "NoneType"
  | .bool => "bool"
  | .int => "int"
  | .str => "str"
  | .tuple => "tuple"
  | .list => "list"
  | .dict => "dict"
  | .set => "set"
inductive VV where
  | non | bl (b : Bool) | int (i : Int) | str (x : Str) | ty (n : BTy)
  | tup (xs : List VV) | lst (xs : List VV) | rol (xs : List VV) | dct (ks vs : List VV) | ins (c : Nat) (fs : List VV)
  | ref (n : Nat) | adr (n : Nat) | dtt (ks vs : List VV) | ktu (xs : List VV)
/-- what stands in the small heap -/
inductive VO where
  | lst (xs : List VV) | dead | tbl (n : Nat) (q : Str) | dtt (ks vs : List VV) | dct (ks vs : List VV)
  /-- an instance of the class at c with slots; its own dict is the object m -/
  | ins (c m : Nat) (vs : List (Option VV))
  /-- the dict of an instance: once a slot has been stored, ahead of it -/
  | sub (b : Bool)
abbrev VH := List VO
structure Exn where
  c : Nat
  pay : Option VV
inductive Out (α : Type) where
  | ok (a : α) (h : VH) | exc (x : Exn) (h : VH) | bad
def Out.bind {α β : Type} (r : Out α) (f : α → VH → Out β) : Out β := match r with
  | .ok a h => f a h
  | .exc x h => .exc x h
  | .bad => .bad

/-! ### worlds: where the small heap's objects lie, which addresses are others' to change (P), which are this frame's own lists (O, by slots) -/
structure Wd where
  phi : List (Option Addr)
  P : Addr → Prop
  O : List (Option Addr)
def Wd.mut (w : Wd) (a : Addr) : Prop := some a ∈ w.phi ∨ w.P a ∨ some a ∈ w.O

def vvK : Key → VV
  | .inl i => .int i
  | .inr x => .str x
/-- keys that are tuples of ints and texts -/
def keysT (kvs : List (List Key × V)) : List VV := kvs.map fun p => .tup (p.1.map vvK)
section
variable (K : PySem.W.Frag) (G : Nat → Addr)
/-- a list, a tuple of the written part -/
def KLst (a : Addr) (xs : List V) : Prop := ∃ (o : Obj) (its : Array Value) (n : Nat), K.lookup a = some o ∧ o.cls = .type "list" ∧ o.dict = none ∧ o.data = .seq its n ∧ its.size ≤ sizeLine ∧ Vals xs its.toList
def KTup (a : Addr) (xs : List V) : Prop := ∃ (o : Obj) (its : Array Value) (n : Nat), K.lookup a = some o ∧ o.cls = .type "tuple" ∧ o.data = .seq its n ∧ its.size ≤ sizeLine ∧ Vals xs its.toList ∧ o.dict = none
/-- a dict whose keys are these, whatever they are -/
def BdP (ob : Obj) (vs : List V) : Prop := ob.ExactDict ∧ ∃ es ep, ob.data = .dict es ep ∧ es.size = vs.length ∧ ∀ (i : Nat) (v : V), vs[i]? = some v → ∃ en, es[i]? = some en ∧ RelV v en.key
/-- the lambdas that stand in a statement: items of a for's tuple, arguments of a call -/
def lamsOf : Stmt → List Expr
  | .For _ (.Tuple es _ _) _ _ _ => es
  | .Expr (.Call _ es _ _) _ => es
  | _ => []
def lamE : Expr → Option (Arguments × Expr × Scope)
  | .Lambda a b s _ => some (a, b, s)
  | _ => none
abbrev LamT := Arguments × Expr × Scope × Str
def lamAt (b : List Stmt) (q : Str) (i j : Nat) : Option LamT := (b[i]?.bind fun st => (lamsOf st)[j]?.bind lamE).map fun t => (t.1, t.2.1, t.2.2, q ++ ".<locals>." ++ "<lambda>")
/-- the lambda at j of the statement i of the def at a -/
def lamK (a : Addr) (i j : Nat) : Option LamT := match K.lookup a with
  | some ⟨_, _, .func fd, _⟩ => (match fd.body with
    | .stmts b => lamAt b fd.qualname i j
    | _ => none)
  | _ => none
/-- a lambda without names from around it, made of that text -/
def LamP (w : Wd) (H : Hp) (a : Addr) (ob : Obj) (vs : List V) : Prop := ∃ (i j : Nat) (t : LamT) (pm : Value) (c2 : Addr) (ct : Value), vs = [.int i, .int j] ∧ lamK K a i j = some t ∧ ob = PySem.W.kla_obj "<lambda>" t.2.2.2 t.1 t.2.1 t.2.2.1 [] pm c2 ct ∧ H c2 = some (LamX.CodeO c2 t.2.2.2) ∧ ¬ w.mut c2
/-- objects of the class number c: 0 a locked dict, n + 1 a lambda of the def at G n -/
def InsP (w : Wd) (H : Hp) (a : Addr) (ob : Obj) (vs : List V) : Nat → Prop
  | 0 => (a == sysModules) = false ∧ BdP ob vs
  | n + 1 => LamP K w H (G n) ob vs
mutual
def RV (w : Wd) (H : Hp) : VV → V → Prop
  | .non, y => y = .non
  | .bl b, y => y = .bl b
  | .int i, y => y = .int i
  | .str x, y => y = .str x
  | .ty n, y => y = .ty n.name
  | .tup xs, y => ∃ a ys, y = .ref a ∧ (H a = some (.tup ys) ∧ ¬ w.mut a) ∧ RVs w H xs ys
  | .ktu xs, y => ∃ a ys, y = .ref a ∧ (KTup K a ys ∨ ∃ o, H a = some (.frz o (.tup ys)) ∧ o.dict = none ∧ ¬ w.mut a) ∧ RVs w H xs ys
  | .lst xs, y => ∃ a ys, y = .ref a ∧ (H a = some (.lst ys) ∧ ¬ w.mut a) ∧ RVs w H xs ys
  | .rol xs, y => ∃ a ys, y = .ref a ∧ ((∃ o, H a = some (.frz o (.lst ys)) ∧ ¬ w.mut a) ∨ KLst K a ys) ∧ RVs w H xs ys
  | .dct ks vs, y => ∃ a kvs, y = .ref a ∧ (∃ o, H a = some (.frz o (.dK kvs)) ∧ ¬ w.mut a) ∧ RVs w H ks (kvs.map fun p => kV p.1) ∧ RVs w H vs (kvs.map fun p => p.2)
  | .ins c fs, y => ∃ a vs, y = .ref a ∧ (∃ ob, H a = some (.frz ob (.ext fun _ => True)) ∧ InsP K G w H a ob vs c ∧ ¬ w.mut a) ∧ RVs w H fs vs
  | .ref n, y => ∃ a, y = .ref a ∧ n < w.phi.length ∧ ∀ b, w.phi[n]? = some (some b) → b = a
  | .adr n, y => y = .ref (G n)
  | .dtt ks vs, y => ∃ a kvs, y = .ref a ∧ (∃ o, H a = some (.frz o (.dT kvs)) ∧ ¬ w.mut a) ∧ ks = keysT kvs ∧ RVs w H vs (kvs.map fun p => p.2)
def RVs (w : Wd) (H : Hp) : List VV → List V → Prop
  | [], ys => ys = []
  | x :: xs, ys => ∃ y r, ys = y :: r ∧ RV w H x y ∧ RVs w H xs r
end
/-- a table of code objects, all of one name -/
def TabW (w : Wd) (H : Hp) (a : Addr) (q : Str) : Prop := ∃ ps : Array Value, H a = some (.tbl ps) ∧ TriplesOk ps.toList ∧ ∀ (pos : Pos) (cv : Value), codeAmong pos ps.toList = some cv → ∃ c, cv = .ref c ∧ H c = some (LamX.CodeO c q) ∧ ¬ w.mut c
/-- slots -/
def RVo (w : Wd) (H : Hp) : List (Option VV) → List (Option V) → Prop
  | [], ys => ys = []
  | none :: r, ys => ∃ y l, ys = y :: l ∧ RVo w H r l
  | some x :: r, ys => ∃ y l, ys = some y :: l ∧ RV K G w H x y ∧ RVo w H r l
/-- an object of the small heap -/
def RO (w : Wd) (H : Hp) : VO → Addr → Prop
  | .lst xs, a => ∃ ys, H a = some (.lst ys) ∧ RVs K G w H xs ys
  | .dead, _ => False
  | .tbl n q, a => a = G n ∧ TabW w H a q
  | .dtt ks vs, a => ∃ kvs, H a = some (.dT kvs) ∧ ks = keysT kvs ∧ RVs K G w H vs (kvs.map fun p => p.2)
  | .dct ks vs, a => ∃ kvs, H a = some (.dK kvs) ∧ RVs K G w H ks (kvs.map fun p => kV p.1) ∧ RVs K G w H vs (kvs.map fun p => p.2)
  | .ins c m vs, a => ∃ dx, (m < w.phi.length ∧ ∀ b, w.phi[m]? = some (some b) → b = dx) ∧ ((vs = [] ∧ H a = some (.ins (G c) dx [])) ∨ (vs ≠ [] ∧ ∃ ys, H a = some (SlX.SlO a (G c) dx ys) ∧ RVo K G w H vs ys))
  | .sub true, a => H a = some (.xd [])
  | .sub false, a => ∃ b, H a = some (.own b)
/-- no table, no code object -/
def dat : HO → Bool
  | .tbl _ => false
  | .ext _ => false
  | .tup _ => false
  | _ => true
/-- tables are in the small heap, code objects are nobody's to change -/
def Spc (w : Wd) (a : Addr) : HO → Prop
  | .tbl _ => some a ∈ w.phi
  | .ext φ => (∃ q, HO.ext φ = LamX.CodeO a q) → ¬ w.mut a
  | .tup _ => ¬ w.mut a
  | _ => True
theorem Spc.of {w : Wd} {a : Addr} {o : HO} (h : dat o = true) : Spc w a o := by
  cases o with
  | tbl _ => cases h
  | ext _ => cases h
  | tup _ => cases h
  | _ => trivial
theorem Spc.imp {w w' : Wd} {a : Addr} {o : HO} (h1 : some a ∈ w.phi → some a ∈ w'.phi) (h2 : w'.mut a → w.mut a) (h : Spc w a o) : Spc w' a o := by
  cases o with
  | tbl _ => exact h1 h
  | ext _ => exact fun q z => h q (h2 z)
  | tup _ => exact fun z => h (h2 z)
  | _ => trivial
def Spcs (w : Wd) (H : Hp) : Prop := ∀ (a : Addr) (o : HO), H a = some o → Spc w a o
theorem Spcs.imp {w w' : Wd} {H : Hp} (k : Spcs w H) (h : ∀ a, (some a ∈ w.phi → some a ∈ w'.phi) ∧ (w'.mut a → w.mut a)) : Spcs w' H := fun a o e => (k a o e).imp (h a).1 (h a).2
theorem Spcs.upd {w w' : Wd} {H : Hp} {p : Addr} {o : HO} (k : Spcs w H) (hd : dat o = true) (h : ∀ a, a ≠ p → (some a ∈ w.phi → some a ∈ w'.phi) ∧ (w'.mut a → w.mut a)) : Spcs w' (upd H p o) := fun a u e => by
  by_cases c : a = p
  · subst c
    rw [upd_same] at e
    cases e
    exact Spc.of hd
  · rw [upd_ne c] at e
    exact (k a u e).imp (h a c).1 (h a c).2
def nt : HO → Bool
  | .tbl _ => false
  | _ => true
theorem Spcs.new {w : Wd} {H : Hp} {p : Addr} {o : HO} (k : Spcs w H) (hd : nt o = true) (hp : ¬ w.mut p) : Spcs w (L2.upd H p o) := fun a u e => by
  by_cases c : a = p
  · subst c
    rw [upd_same] at e
    cases e
    cases o with
    | tbl _ => cases hd
    | ext _ => exact fun _ => hp
    | tup _ => exact hp
    | _ => trivial
  · rw [upd_ne c] at e
    exact k a u e
theorem Spcs.put {w : Wd} {H : Hp} {p : Addr} {o : HO} (k : Spcs w H) (hd : dat o = true) : Spcs w (L2.upd H p o) := k.upd hd fun _ _ => ⟨id, id⟩
structure Hk (w : Wd) (h : VH) (H : Hp) : Prop where
  len : w.phi.length = h.length
  inj : ∀ (n m : Nat) (a : Addr), w.phi[n]? = some (some a) → w.phi[m]? = some (some a) → n = m
  obj : ∀ (n : Nat) (a : Addr), w.phi[n]? = some (some a) → ∃ o, h[n]? = some o ∧ RO K G w H o a
  has : ∀ (n : Nat) (o : VO), h[n]? = some o → o ≠ .dead → ∃ a, w.phi[n]? = some (some a)
  prot : ∀ a, w.P a ∨ some a ∈ w.O → H a ≠ none ∧ some a ∉ w.phi
  own : ∀ a, w.P a → some a ∉ w.O
  ownI : ∀ (n m : Nat) (a : Addr), w.O[n]? = some (some a) → w.O[m]? = some (some a) → n = m
  spc : Spcs w H
end

/-- what an expression (a call) may have changed -/
structure Ext (w : Wd) (H : Hp) (w' : Wd) (H' : Hp) : Prop where
  keep : ∀ a o, H a = some o → ¬ w.mut a → H' a = some o ∧ ¬ w'.mut a
  refs : ∀ (n : Nat) (b : Addr), n < w.phi.length → w'.phi[n]? = some (some b) → w.phi[n]? = some (some b)
  len : w.phi.length ≤ w'.phi.length
  P : w'.P = w.P
  O : w'.O = w.O
  prot : ∀ a, w.P a ∨ some a ∈ w.O → H' a = H a
theorem Ext.refl (w : Wd) (H : Hp) : Ext w H w H := ⟨fun _ _ h m => ⟨h, m⟩, fun _ _ _ h => h, Nat.le_refl _, rfl, rfl, fun _ _ => rfl⟩
theorem Ext.trans {w w1 w2 : Wd} {H H1 H2 : Hp} (a : Ext w H w1 H1) (b : Ext w1 H1 w2 H2) : Ext w H w2 H2 where
  keep := fun c o h m => let ⟨h1, m1⟩ := a.keep c o h m; b.keep c o h1 m1
  refs := fun n c hn h => a.refs n c hn (b.refs n c (Nat.lt_of_lt_of_le hn a.len) h)
  len := Nat.le_trans a.len b.len
  P := b.P.trans a.P
  O := b.O.trans a.O
  prot := fun c hc => (b.prot c (by rw [a.P, a.O]; exact hc)).trans (a.prot c hc)

section
variable {K : PySem.W.Frag} {G : Nat → Addr} {w w' : Wd} {H H' : Hp}
/-- what a tree's relation leans on -/
structure Sees (w : Wd) (H : Hp) (w' : Wd) (H' : Hp) : Prop where
  keep : ∀ a o, H a = some o → ¬ w.mut a → H' a = some o ∧ ¬ w'.mut a
  refs : ∀ (n : Nat) (b : Addr), n < w.phi.length → w'.phi[n]? = some (some b) → w.phi[n]? = some (some b)
  len : w.phi.length ≤ w'.phi.length
theorem Ext.sees (e : Ext w H w' H') : Sees w H w' H' := ⟨e.keep, e.refs, e.len⟩
theorem LamP.imp {a : Addr} {ob : Obj} {vs : List V} (e : ∀ c o, H c = some o → ¬ w.mut c → (∃ q, o = LamX.CodeO c q) → H' c = some o ∧ ¬ w'.mut c) (h : LamP K w H a ob vs) : LamP K w' H' a ob vs := by
  obtain ⟨i, j, t, pm, c2, ct, h1, h2, h3, h4, h5⟩ := h
  obtain ⟨h6, h7⟩ := e c2 _ h4 h5 ⟨_, rfl⟩
  exact ⟨i, j, t, pm, c2, ct, h1, h2, h3, h6, h7⟩
theorem InsP.imp {a : Addr} {ob : Obj} {vs : List V} (e : ∀ c o, H c = some o → ¬ w.mut c → (∃ q, o = LamX.CodeO c q) → H' c = some o ∧ ¬ w'.mut c) : ∀ {c : Nat}, InsP K G w H a ob vs c → InsP K G w' H' a ob vs c
  | 0, h => h
  | _ + 1, h => LamP.imp e h
theorem InsP.mono {a : Addr} {ob : Obj} {vs : List V} {c : Nat} (e : Sees w H w' H') (h : InsP K G w H a ob vs c) : InsP K G w' H' a ob vs c := h.imp fun c o h m _ => e.keep c o h m
mutual
theorem RV.mono (e : Sees w H w' H') : ∀ (v : VV) (y : V), RV K G w H v y → RV K G w' H' v y
  | .non, _, h => by simp only [RV] at h ⊢; exact h
  | .bl _, _, h => by simp only [RV] at h ⊢; exact h
  | .int _, _, h => by simp only [RV] at h ⊢; exact h
  | .str _, _, h => by simp only [RV] at h ⊢; exact h
  | .ty _, _, h => by simp only [RV] at h ⊢; exact h
  | .tup xs, _, h => by
    simp only [RV] at h ⊢
    obtain ⟨a, ys, e1, h1, h2⟩ := h
    exact ⟨a, ys, e1, e.keep a _ h1.1 h1.2, RVs.mono e xs ys h2⟩
  | .ktu xs, _, h => by
    simp only [RV] at h ⊢
    obtain ⟨a, ys, e1, h1, h2⟩ := h
    exact ⟨a, ys, e1, h1.imp id (fun ⟨o, q1, q2, q3⟩ => ⟨o, (e.keep a _ q1 q3).1, q2, (e.keep a _ q1 q3).2⟩), RVs.mono e xs ys h2⟩
  | .lst xs, _, h => by
    simp only [RV] at h ⊢
    obtain ⟨a, ys, e1, h1, h2⟩ := h
    exact ⟨a, ys, e1, e.keep a _ h1.1 h1.2, RVs.mono e xs ys h2⟩
  | .rol xs, _, h => by
    simp only [RV] at h ⊢
    obtain ⟨a, ys, e1, h1, h2⟩ := h
    exact ⟨a, ys, e1, h1.imp (fun ⟨o, q1, q2⟩ => ⟨o, e.keep a _ q1 q2⟩) id, RVs.mono e xs ys h2⟩
  | .dct ks vs, _, h => by
    simp only [RV] at h ⊢
    obtain ⟨a, kvs, e1, ⟨o, h1, h1'⟩, h2, h3⟩ := h
    exact ⟨a, kvs, e1, ⟨o, e.keep a _ h1 h1'⟩, RVs.mono e ks _ h2, RVs.mono e vs _ h3⟩
  | .ins _ fs, _, h => by
    simp only [RV] at h ⊢
    obtain ⟨a, vs, e1, ⟨ob, h1, h2, h3⟩, h4⟩ := h
    exact ⟨a, vs, e1, ⟨ob, (e.keep a _ h1 h3).1, h2.mono e, (e.keep a _ h1 h3).2⟩, RVs.mono e fs vs h4⟩
  | .ref n, _, h => by
    simp only [RV] at h ⊢
    obtain ⟨a, e1, h1, h2⟩ := h
    exact ⟨a, e1, Nat.lt_of_lt_of_le h1 e.len, fun b hb => h2 b (e.refs n b h1 hb)⟩
  | .adr _, _, h => by simp only [RV] at h ⊢; exact h
  | .dtt ks vs, _, h => by
    simp only [RV] at h ⊢
    obtain ⟨a, kvs, e1, ⟨o, h1, h1'⟩, h2, h3⟩ := h
    exact ⟨a, kvs, e1, ⟨o, e.keep a _ h1 h1'⟩, h2, RVs.mono e vs _ h3⟩
theorem RVs.mono (e : Sees w H w' H') : ∀ (v : List VV) (y : List V), RVs K G w H v y → RVs K G w' H' v y
  | [], _, h => by simp only [RVs] at h ⊢; exact h
  | x :: xs, _, h => by
    simp only [RVs] at h ⊢
    obtain ⟨y, r, e1, h1, h2⟩ := h
    exact ⟨y, r, e1, RV.mono e x y h1, RVs.mono e xs r h2⟩
end
theorem RVo.mono (e : Sees w H w' H') : ∀ (v : List (Option VV)) (y : List (Option V)), RVo K G w H v y → RVo K G w' H' v y
  | [], _, h => by simp only [RVo] at h ⊢; exact h
  | none :: r, _, h => by
    simp only [RVo] at h ⊢
    obtain ⟨y, l, e1, h1⟩ := h
    exact ⟨y, l, e1, RVo.mono e r l h1⟩
  | some x :: r, _, h => by
    simp only [RVo] at h ⊢
    obtain ⟨y, l, e1, h1, h2⟩ := h
    exact ⟨y, l, e1, RV.mono e x y h1, RVo.mono e r l h2⟩
theorem RVs.length : ∀ {v : List VV} {y : List V}, RVs K G w H v y → v.length = y.length
  | [], _, h => by simp only [RVs] at h; subst h; rfl
  | x :: xs, _, h => by
    simp only [RVs] at h
    obtain ⟨y, r, rfl, _, h2⟩ := h
    simp [RVs.length h2]
theorem RVs.get : ∀ {v : List VV} {y : List V}, RVs K G w H v y → ∀ (i : Nat) (x : VV), v[i]? = some x → ∃ z, y[i]? = some z ∧ RV K G w H x z
  | [], _, _, i, x, hx => by simp at hx
  | x :: xs, _, h, i, z, hx => by
    simp only [RVs] at h
    obtain ⟨y, r, rfl, h1, h2⟩ := h
    cases i with
    | zero => simp at hx; subst hx; exact ⟨y, rfl, h1⟩
    | succ i => simpa using RVs.get h2 i z (by simpa using hx)
theorem RVs.app : ∀ {v v' : List VV} {y y' : List V}, RVs K G w H v y → RVs K G w H v' y' → RVs K G w H (v ++ v') (y ++ y')
  | [], _, _, _, h, h' => by simp only [RVs] at h; subst h; exact h'
  | x :: xs, _, _, _, h, h' => by
    simp only [RVs] at h
    obtain ⟨y, r, rfl, h1, h2⟩ := h
    simp only [List.cons_append, RVs]
    exact ⟨y, _, rfl, h1, RVs.app h2 h'⟩
theorem RVs.take : ∀ {v : List VV} {y : List V} (n : Nat), RVs K G w H v y → RVs K G w H (v.take n) (y.take n)
  | _, _, 0, _ => by simp [RVs]
  | [], _, n + 1, h => by simp only [RVs] at h; subst h; simp [RVs]
  | x :: xs, _, n + 1, h => by
    simp only [RVs] at h
    obtain ⟨y, r, rfl, h1, h2⟩ := h
    simp only [List.take_succ_cons, RVs]
    exact ⟨y, _, rfl, h1, RVs.take n h2⟩
theorem RVs.drop : ∀ {v : List VV} {y : List V} (n : Nat), RVs K G w H v y → RVs K G w H (v.drop n) (y.drop n)
  | _, _, 0, h => by simpa using h
  | [], _, n + 1, h => by simp only [RVs] at h; subst h; simp [RVs]
  | x :: xs, _, n + 1, h => by
    simp only [RVs] at h
    obtain ⟨y, r, rfl, h1, h2⟩ := h
    simpa using RVs.drop n h2
theorem RVs.set : ∀ {v : List VV} {y : List V} (n : Nat) {x : VV} {z : V}, RVs K G w H v y → RV K G w H x z → RVs K G w H (v.set n x) (y.set n z)
  | [], _, n, _, _, h, _ => by simp only [RVs] at h; subst h; simp [RVs]
  | a :: xs, _, 0, _, _, h, h' => by
    simp only [RVs] at h
    obtain ⟨y, r, rfl, h1, h2⟩ := h
    simp only [List.set_cons_zero, RVs]
    exact ⟨_, _, rfl, h', h2⟩
  | a :: xs, _, n + 1, _, _, h, h' => by
    simp only [RVs] at h
    obtain ⟨y, r, rfl, h1, h2⟩ := h
    simp only [List.set_cons_succ, RVs]
    exact ⟨y, _, rfl, h1, RVs.set n h2 h'⟩
theorem RVs.rev : ∀ {v : List VV} {y : List V}, RVs K G w H v y → RVs K G w H v.reverse y.reverse
  | [], _, h => by simp only [RVs] at h; subst h; simp [RVs]
  | x :: xs, _, h => by
    simp only [RVs] at h
    obtain ⟨y, r, rfl, h1, h2⟩ := h
    simp only [List.reverse_cons]
    exact RVs.app (RVs.rev h2) (by simp only [RVs]; exact ⟨y, [], rfl, h1, rfl⟩)
theorem RVs.ints : ∀ {ns : List Int} {y : List V}, RVs K G w H (ns.map VV.int) y → y = ns.map V.int
  | [], _, h => by simpa only [List.map_nil, RVs] using h
  | n :: ns, _, h => by
    simp only [List.map_cons, RVs, RV] at h
    obtain ⟨y, r, rfl, rfl, h2⟩ := h
    simp [RVs.ints h2]
theorem RVs.of_ints : ∀ (ns : List Int), RVs K G w H (ns.map VV.int) (ns.map V.int)
  | [] => by simp [RVs]
  | n :: ns => by simp only [List.map_cons, RVs, RV]; exact ⟨_, _, rfl, rfl, RVs.of_ints ns⟩
theorem RVs.bls : ∀ {ns : List Bool} {y : List V}, RVs K G w H (ns.map VV.bl) y → y = ns.map V.bl
  | [], _, h => by simpa only [List.map_nil, RVs] using h
  | n :: ns, _, h => by
    simp only [List.map_cons, RVs, RV] at h
    obtain ⟨y, r, rfl, rfl, h2⟩ := h
    simp [RVs.bls h2]

theorem Hk.live {h : VH} (k : Hk K G w h H) {a : Addr} (m : w.mut a) : H a ≠ none := by
  rcases m with m | m | m
  · obtain ⟨n, hn⟩ := List.getElem?_of_mem m
    obtain ⟨o, _, r⟩ := k.obj n a hn
    cases o with
    | lst xs =>
      obtain ⟨ys, e, _⟩ := r
      rw [e]
      simp
    | dead => exact r.elim
    | tbl m q =>
      obtain ⟨_, ps, e, _⟩ := r
      rw [e]
      simp
    | dtt ks vs =>
      obtain ⟨kvs, e, _⟩ := r
      rw [e]
      simp
    | dct ks vs =>
      obtain ⟨kvs, e, _⟩ := r
      rw [e]
      simp
    | ins c m vs =>
      obtain ⟨dx, _, ⟨_, e⟩ | ⟨_, ys, e, _⟩⟩ := r
      · rw [e]; simp
      · rw [e]; simp
    | sub b =>
      cases b with
      | true => rw [show H a = some (.xd []) from r]; simp
      | false =>
        obtain ⟨b, e⟩ := r
        rw [e]; simp
  · exact (k.prot a (.inl m)).1
  · exact (k.prot a (.inr m)).1
theorem Hk.fresh {h : VH} (k : Hk K G w h H) {p : Addr} (hp : H p = none) : ¬ w.mut p := fun m => k.live m hp
/-- a new object that is not mutable -/
theorem Ext.grow {h : VH} (k : Hk K G w h H) {o : HO} {p : Addr} (hp : H p = none) : Ext w H w (upd H p o) where
  keep := fun a u q m => ⟨by rw [upd_ne (ne_of_none q hp)]; exact q, m⟩
  refs := fun _ _ _ q => q
  len := Nat.le_refl _
  P := rfl
  O := rfl
  prot := fun a ha => upd_ne fun e => k.live (.inr ha) (e ▸ hp)
theorem RO.mono (e : Sees w H w' H') : ∀ (o : VO) (a : Addr), (∀ u, H a = some u → H' a = some u) → RO K G w H o a → RO K G w' H' o a
  | .lst xs, a, k, ⟨ys, h1, h2⟩ => ⟨ys, k _ h1, RVs.mono e xs ys h2⟩
  | .dead, _, _, r => r.elim
  | .tbl _ _, a, k, ⟨h0, ps, h1, h2, h3⟩ => ⟨h0, ps, k _ h1, h2, fun pos cv q => by
    obtain ⟨c, e1, e2, e3⟩ := h3 pos cv q
    obtain ⟨e4, e5⟩ := e.keep c _ e2 e3
    exact ⟨c, e1, e4, e5⟩⟩
  | .dtt ks vs, a, k, ⟨kvs, h1, h2, h3⟩ => ⟨kvs, k _ h1, h2, RVs.mono e vs _ h3⟩
  | .dct ks vs, a, k, ⟨kvs, h1, h2, h3⟩ => ⟨kvs, k _ h1, RVs.mono e ks _ h2, RVs.mono e vs _ h3⟩
  | .ins c m vs, a, k, ⟨dx, ⟨h1, h2⟩, h3⟩ => ⟨dx, ⟨Nat.lt_of_lt_of_le h1 e.len, fun b hb => h2 b (e.refs m b h1 hb)⟩, h3.imp (fun ⟨p, q⟩ => ⟨p, k _ q⟩) fun ⟨p, ys, q, r⟩ => ⟨p, ys, k _ q, RVo.mono e vs ys r⟩⟩
  | .sub true, a, k, h => k _ h
  | .sub false, a, k, ⟨b, h⟩ => ⟨b, k _ h⟩
theorem Hk.grow {h : VH} (k : Hk K G w h H) {o : HO} {p : Addr} (hp : H p = none) (hd : nt o = true := by rfl) : Hk K G w h (upd H p o) where
  len := k.len
  inj := k.inj
  obj := fun n a hn => by
    obtain ⟨u, h1, h2⟩ := k.obj n a hn
    exact ⟨u, h1, RO.mono (Ext.grow k hp).sees u a (fun z q => by rw [upd_ne (ne_of_none q hp)]; exact q) h2⟩
  has := k.has
  prot := fun a ha => by
    obtain ⟨h1, h2⟩ := k.prot a ha
    refine ⟨?_, h2⟩
    rw [upd_ne (show a ≠ p from fun e => h1 (by rw [e]; exact hp))]
    exact h1
  own := k.own
  ownI := k.ownI
  spc := k.spc.new hd (k.fresh hp)
end
end Mv
set_option Elab.async false
set_option linter.all false
set_option maxRecDepth 100000
/-! Mv, part B: mirrors and their judgements; names, constants, operators. -/
namespace Mv
open PySem PySem.Spec PyProof.Rows L2

/-- the text's own names: where its defs and classes stand; the field of each error class -/
structure Gx where
  adr : Nat → Addr
  fld : Nat → Str
abbrev Sv := List (Option VV)
abbrev ME := Sv → VH → Out VV
abbrev MT := Sv → VH → Out Bool
abbrev MA := Sv → VH → Out (List VV)

section
variable (K : PySem.W.Frag) (g : Gx)
abbrev Rel (α β : Type) := Wd → Hp → α → β → Prop
def relV : Rel VV V := fun w H v y => RV K g.adr w H v y
def relVs : Rel (List VV) (List V) := fun w H v y => RVs K g.adr w H v y
def relB : Rel Bool Bool := fun _ _ b c => b = c
def RX (w : Wd) (H : Hp) (x : Exn) (cls : Value) (d : Option Addr) : Prop := cls = .ref (g.adr x.c) ∧ match x.pay with
  | none => True
  | some v => ∃ dd y, d = some dd ∧ H dd = some (.xd [(g.fld x.c, y)]) ∧ ¬ w.mut dd ∧ RV K g.adr w H v y
/-- the slots' values -/
structure RSl (w : Wd) (H : Hp) (sv : Sv) (σ : L2.St) : Prop where
  len : sv.length = σ.length
  get : ∀ (i : Nat) (v : VV), sv[i]? = some (some v) → ∃ y, σ[i]? = some (some y) ∧ RV K g.adr w H v y
theorem RSl.mono {w w' : Wd} {H H' : Hp} {sv : Sv} {σ : L2.St} (h : RSl K g w H sv σ) (e : Sees w H w' H') : RSl K g w' H' sv σ := ⟨h.len, fun i v q =>
  let ⟨y, h1, h2⟩ := h.get i v q
  ⟨y, h1, RV.mono e v y h2⟩⟩
/-- what stands behind a mirror's outcome -/
def Post {α β : Type} (R : Rel α β) (w : Wd) (H : Hp) (σ : L2.St) (Q : β → Hp → Prop) (W : WX) : Out α → Prop
  | .ok v h => ∀ w' H' y, Ext w H w' H' → Hk K g.adr w' h H' → R w' H' v y → Q y H'
  | .exc x h => ∀ w' H' cls d, Ext w H w' H' → Hk K g.adr w' h H' → RX K g w' H' x cls d → W cls d σ H'
  | .bad => False
/-- a mirror as a reading -/
def tG {α β : Type} (R : Rel α β) (m : Sv → VH → Out α) (W : WX) : L2.St → Hp → (β → Hp → Prop) → Prop := fun σ H Q =>
  ∃ w sv h, RSl K g w H sv σ ∧ Hk K g.adr w h H ∧ Post K g R w H σ Q W (m sv h)
end

section
variable {K : PySem.W.Frag} {g : Gx} {α β γ δ : Type} {R : Rel α β} {R' : Rel γ δ} {w w' : Wd} {H H' : Hp} {σ : L2.St} {W : WX} {h : VH} {sv : Sv}
theorem Post.mono {Q : β → Hp → Prop} (e : Ext w H w' H') : ∀ {r : Out α}, Post K g R w H σ Q W r → Post K g R w' H' σ Q W r
  | .ok v h, p => fun w2 H2 y e2 k r => p w2 H2 y (e.trans e2) k r
  | .exc x h, p => fun w2 H2 cls d e2 k r => p w2 H2 cls d (e.trans e2) k r
  | .bad, p => p
theorem Post.imp {Q Q' : β → Hp → Prop} (i : ∀ y H', Q y H' → Q' y H') : ∀ {r : Out α}, Post K g R w H σ Q W r → Post K g R w H σ Q' W r
  | .ok v h, p => fun w2 H2 y e2 k r => i y H2 (p w2 H2 y e2 k r)
  | .exc x h, p => p
  | .bad, p => p
theorem Post.here {Q : β → Hp → Prop} {v : α} {y : β} (p : Post K g R w H σ Q W (.ok v h)) (k : Hk K g.adr w h H) (r : R w H v y) : Q y H := p w H y (Ext.refl w H) k r
theorem tG.mono {Q Q' : β → Hp → Prop} {m : Sv → VH → Out α} (t : tG K g R m W σ H Q) (i : ∀ y H', Q y H' → Q' y H') : tG K g R m W σ H Q' :=
  let ⟨w, sv, h, a, b, c⟩ := t
  ⟨w, sv, h, a, b, c.imp i⟩
/-- a first part, then a rest -/
theorem seqG {Q : δ → Hp → Prop} {m : Sv → VH → Out α} {k : α → VH → Out γ} (rs : RSl K g w H sv σ) (hk : Hk K g.adr w h H) (p : Post K g R' w H σ Q W ((m sv h).bind k)) :
    tG K g R m W σ H (fun y H1 => ∃ w1 h1 v, Ext w H w1 H1 ∧ RSl K g w1 H1 sv σ ∧ Hk K g.adr w1 h1 H1 ∧ R w1 H1 v y ∧ Post K g R' w1 H1 σ Q W (k v h1)) := by
  refine ⟨w, sv, h, rs, hk, ?_⟩
  cases e : m sv h with
  | ok v h1 =>
    rw [e] at p
    exact fun w1 H1 y e1 k1 r => ⟨w1, h1, v, e1, rs.mono _ _ e1.sees, k1, r, Post.mono e1 p⟩
  | exc x h1 =>
    rw [e] at p
    exact p
  | bad =>
    rw [e] at p
    exact p
/-- the slots seen from a later heap -/
theorem seqG' {Q : δ → Hp → Prop} {T : β → Hp → Prop} {m : Sv → VH → Out α} {k : α → VH → Out γ} (rs : RSl K g w H sv σ) (hk : Hk K g.adr w h H) (p : Post K g R' w H σ Q W ((m sv h).bind k))
    (i : ∀ w1 H1 h1 v y, Ext w H w1 H1 → RSl K g w1 H1 sv σ → Hk K g.adr w1 h1 H1 → R w1 H1 v y → Post K g R' w1 H1 σ Q W (k v h1) → T y H1) : tG K g R m W σ H T :=
  (seqG (k := k) rs hk p).mono fun y H1 ⟨w1, h1, v, a, b, c, d, e⟩ => i w1 H1 h1 v y a b c d e
end

/-! ### judgements -/
abbrev RE (X : Cx) (g : Gx) (W : WX) (e : Expr) (m : ME) : Prop := PE X e (tG X.K g (relV X.K g) m W)
abbrev RT (X : Cx) (g : Gx) (W : WX) (e : Expr) (m : MT) : Prop := PT X e (tG X.K g relB m W)
abbrev RW (X : Cx) (g : Gx) (W : WX) (e : Expr) (m : MT) : Prop := PW X e (tG X.K g relB m W)
abbrev RA (X : Cx) (g : Gx) (W : WX) (es : List Expr) (m : MA) : Prop := PA X es (tG X.K g (relVs X.K g) m W)
theorem pe_imp {X : Cx} {e : Expr} {t t' : TE} (h : PE X e t) (i : ∀ σ H Q, t' σ H Q → t σ H Q) : PE X e t' := ⟨fun pins s σ H Q I q => h.run pins s σ H Q I (i σ H Q q)⟩
theorem pt_imp {X : Cx} {e : Expr} {t t' : TT} (h : PT X e t) (i : ∀ σ H Q, t' σ H Q → t σ H Q) : PT X e t' := ⟨fun pins s σ H Q I q => h.run pins s σ H Q I (i σ H Q q)⟩
theorem pw_imp {X : Cx} {e : Expr} {t t' : TT} (h : PW X e t) (i : ∀ σ H Q, t' σ H Q → t σ H Q) : PW X e t' := ⟨fun wh pins s σ H Q I q => h.run wh pins s σ H Q I (i σ H Q q)⟩
theorem pa_imp {X : Cx} {es : List Expr} {t t' : TA} (h : PA X es t) (i : ∀ σ H Q, t' σ H Q → t σ H Q) : PA X es t' := ⟨fun pos pins s σ H Q I q => h.run pos pins s σ H Q I (i σ H Q q)⟩
theorem ps_imp {X : Cx} {st : Stmt} {t t' : TS} (h : PS X st t) (i : ∀ D σ H, t' D σ H → t D σ H) : PS X st t' := ⟨fun pins s σ H D I q => h.run pins s σ H D I (i D σ H q)⟩
theorem pss_imp {X : Cx} {st : List Stmt} {t t' : TS} (h : PSs X st t) (i : ∀ D σ H, t' D σ H → t D σ H) : PSs X st t' := ⟨fun pins s σ H D I q => h.run pins s σ H D I (i D σ H q)⟩

/-! ### names and constants -/
def varM (i : Nat) : ME := fun sv h => match sv[i]? with
  | some (some v) => .ok v h
  | _ => .bad
def cM (v : VV) : ME := fun _ h => .ok v h
section
variable {X : Cx} {g : Gx} {W : WX} {pos : Pos}
theorem re_var (i : Nat) {x : Str} (hN : X.N[i]? = some x := by rfl) (hv : Vis X.env.scope x := by first | exact Or.inl rfl | exact Or.inr (Or.inl rfl) | exact Or.inr (Or.inr rfl)) (hd : (x == ("__debug__" : Str)) = false := by decide)
    (hcd : (x == ("__classdict__" : Str)) = false := by decide) : RE X g W (.Name x pos) (varM i) :=
  pe_imp (pe_var hN hv hd hcd) fun σ H Q ⟨w, sv, h, rs, hk, p⟩ => by
    unfold varM at p
    split at p
    · rename_i v e
      obtain ⟨y, e1, r⟩ := rs.get i v e
      exact ⟨y, e1, p.here hk r⟩
    · exact p.elim
theorem const_imp {v : VV} {y : V} {σ : L2.St} {H : Hp} {Q : VK} (r : ∀ w, RV X.K g.adr w H v y) (t : tG X.K g (relV X.K g) (cM v) W σ H Q) : Q y H := by
  obtain ⟨w, sv, h, rs, hk, p⟩ := t
  exact Post.here p hk (r w)
theorem re_int {i : Int} {j} : RE X g W (.Constant (.int i) j pos) (cM (.int i)) := pe_imp pe_int fun σ H Q t => const_imp (fun _ => by simp only [RV]) t
theorem re_bl {b : Bool} {j} : RE X g W (.Constant (.bool b) j pos) (cM (.bl b)) := pe_imp pe_bl fun σ H Q t => const_imp (fun _ => by simp only [RV]) t
theorem re_non {j} : RE X g W (.Constant .none j pos) (cM .non) := pe_imp pe_non fun σ H Q t => const_imp (fun _ => by simp only [RV]) t
theorem re_str {x : Str} {j} : RE X g W (.Constant (.str x) j pos) (cM (.str x)) := pe_imp pe_str fun σ H Q t => const_imp (fun _ => by simp only [RV]) t
/-- a module's int -/
theorem re_gint {x : Str} {i : Int} (hg : Gl X x) (hm : ∃ t, X.mg x = some (.int i t)) (hd : (x == ("__debug__" : Str)) = false := by decide) : RE X g W (.Name x pos) (cM (.int i)) := by
  obtain ⟨t, hm⟩ := hm
  exact pe_imp (pe_glob (v := .int i) hg hm ⟨t, rfl⟩ hd) fun σ H Q t => const_imp (fun _ => by simp only [RV]) t
/-- a def, a class as a value -/
theorem re_adr {x : Str} {n : Nat} (hg : Gl X x) (hm : X.mg x = some (.ref (g.adr n))) (hd : (x == ("__debug__" : Str)) = false := by decide) : RE X g W (.Name x pos) (cM (.adr n)) :=
  pe_imp (pe_glob (v := .ref (g.adr n)) hg hm rfl hd) fun σ H Q t => const_imp (fun _ => by simp only [RV]) t
end

/-! ### operators -/
abbrev V2 := VV → VV → VH → Out VV
def opM (f : V2) (a b : ME) : ME := fun sv h => (a sv h).bind fun x h1 => (b sv h1).bind fun y h2 => f x y h2
def unM (f : VV → VH → Out VV) (a : ME) : ME := fun sv h => (a sv h).bind fun x h1 => f x h1
/-- a value function that a reading of values serves -/
def OpS (K : PySem.W.Frag) (g : Gx) (r : R2) (f : V2) : Prop := ∀ (w : Wd) (h : VH) (H : Hp) (σ : L2.St) (W : WX) (Q : VK) (x y : VV) (vx vy : V), Hk K g.adr w h H → RV K g.adr w H x vx → RV K g.adr w H y vy →
  Post K g (relV K g) w H σ Q W (f x y h) → r vx vy H Q
section
variable {X : Cx} {g : Gx} {W : WX} {a b c : Expr} {ma mb mc : ME} {pos : Pos}
theorem op_imp {r : R2} {f : V2} (hf : OpS X.K g r f) {σ : L2.St} {H : Hp} {Q : VK} (t : tG X.K g (relV X.K g) (opM f ma mb) W σ H Q) :
    tOp r (tG X.K g (relV X.K g) ma W) (tG X.K g (relV X.K g) mb W) σ H Q := by
  obtain ⟨w, sv, h, rs, hk, p⟩ := t
  refine seqG' rs hk p fun w1 H1 h1 v y e1 rs1 k1 r1 p1 => ?_
  refine seqG' rs1 k1 p1 fun w2 H2 h2 v2 y2 e2 rs2 k2 r2 p2 => ?_
  exact hf w2 h2 H2 σ W Q v v2 y y2 k2 (RV.mono e2.sees _ _ r1) r2 p2
theorem re_op {op : Operator} {r : R2} {f : V2} (ho : OpR X (binaryOp op) r) (hf : OpS X.K g r f) (ha : RE X g W a ma) (hb : RE X g W b mb) : RE X g W (.BinOp a op b pos) (opM f ma mb) :=
  pe_imp (pe_op ho ha hb) fun σ H Q t => op_imp hf t
theorem re_cmp {op : CmpOp} {r : R2} {f : V2} (ho : OpR X (compareOp op) r) (hf : OpS X.K g r f) (ha : RE X g W a ma) (hb : RE X g W b mb) (hm : behindInMarks op b = false := by first | exact nomark _ | rfl) : RE X g W (.Compare a [op] [b] pos) (opM f ma mb) :=
  pe_imp (pe_cmpR ho ha hb hm) fun σ H Q t => op_imp hf t
/-- a value as a test -/
def blM (m : ME) : MT := fun sv h => (m sv h).bind fun x h1 => match x with
  | .bl b => .ok b h1
  | _ => .bad
theorem bl_imp {σ : L2.St} {H : Hp} {Q : Bool → Hp → Prop} (t : tG X.K g relB (blM ma) W σ H Q) : tG X.K g (relV X.K g) ma W σ H fun x H1 => ∃ k, x = .bl k ∧ Q k H1 := by
  obtain ⟨w, sv, h, rs, hk, p⟩ := t
  refine seqG' rs hk p fun w1 H1 h1 v y e1 rs1 k1 r1 p1 => ?_
  cases v with
  | bl b =>
    have e : y = .bl b := by simpa only [relV, RV] using r1
    exact ⟨b, e, Post.here p1 k1 rfl⟩
  | _ => exact p1.elim
theorem rt_cmp {op : CmpOp} {r : R2} {f : V2} (ho : OpR X (compareOp op) r) (hf : OpS X.K g r f) (ha : RE X g W a ma) (hb : RE X g W b mb) (hm : behindInMarks op b = false := by first | exact nomark _ | rfl) : RT X g W (.Compare a [op] [b] pos) (blM (opM f ma mb)) :=
  pt_imp (pt_cmpR ho ha hb hm) fun σ H Q t => op_imp hf (bl_imp t)
/-- a chain of two comparisons -/
def chainM (f f' : V2) (ma mb mc : ME) : ME := fun sv h => (ma sv h).bind fun x h1 => (mb sv h1).bind fun y h2 => (f x y h2).bind fun z h3 => match z with
  | .bl true => (mc sv h3).bind fun u h4 => f' y u h4
  | .bl false => .ok (.bl false) h3
  | _ => .bad
theorem OpS.then {K : PySem.W.Frag} {r : R2} {f : V2} (hf : OpS K g r f) {w : Wd} {h : VH} {H : Hp} {σ : L2.St} {α β : Type} {R : Rel α β} {Q : β → Hp → Prop} {x y : VV} {vx vy : V} {k : VV → VH → Out α} (hk : Hk K g.adr w h H) (rx : RV K g.adr w H x vx) (ry : RV K g.adr w H y vy)
    (p : Post K g R w H σ Q W ((f x y h).bind k)) : r vx vy H (fun z H1 => ∃ w1 h1 v, Ext w H w1 H1 ∧ Hk K g.adr w1 h1 H1 ∧ RV K g.adr w1 H1 v z ∧ Post K g R w1 H1 σ Q W (k v h1)) := by
  refine hf w h H σ W _ x y vx vy hk rx ry ?_
  cases e : f x y h with
  | ok v h1 =>
    rw [e] at p
    exact fun w1 H1 y e1 k1 r => ⟨w1, h1, v, e1, k1, r, Post.mono e1 p⟩
  | exc x h1 => rw [e] at p; exact p
  | bad => rw [e] at p; exact p
theorem chain_imp {r r' : R2} {f f' : V2} (hf : OpS X.K g r f) (hf' : OpS X.K g r' f') (mono : ∀ x y H Q Q', (∀ z H', Q z H' → Q' z H') → r x y H Q → r x y H Q') {σ : L2.St} {H : Hp} {Q : VK} (t : tG X.K g (relV X.K g) (chainM f f' ma mb mc) W σ H Q) :
    tChain r r' (tG X.K g (relV X.K g) ma W) (tG X.K g (relV X.K g) mb W) (tG X.K g (relV X.K g) mc W) σ H Q := by
  obtain ⟨w, sv, h, rs, hk, p⟩ := t
  refine seqG' rs hk p fun w1 H1 h1 v y e1 rs1 k1 r1 p1 => ?_
  refine seqG' rs1 k1 p1 fun w2 H2 h2 v2 y2 e2 rs2 k2 r2 p2 => ?_
  refine mono _ _ _ _ _ ?_ (hf.then k2 (RV.mono e2.sees _ _ r1) r2 p2)
  rintro z H3 ⟨w3, h3, v3, e3, k3, r3, p3⟩
  split at p3
  · have e : z = .bl true := by simpa only [RV] using r3
    refine ⟨true, e, iteT ?_⟩
    refine seqG' (rs2.mono _ _ e3.sees) k3 p3 fun w4 H4 h4 v4 y4 e4 rs4 k4 r4 p4 => ?_
    exact hf' w4 h4 H4 σ W Q v2 v4 y2 y4 k4 (RV.mono (e3.trans e4).sees _ _ r2) r4 p4
  · have e : z = .bl false := by simpa only [RV] using r3
    exact ⟨false, e, iteF (Post.here p3 k3 (by simp only [relV, RV]))⟩
  · exact p3.elim
theorem re_chain {op op' : CmpOp} {r r' : R2} {f f' : V2} (ho : OpR X (compareOp op) r) (hf : OpS X.K g r f) (ho' : OpR X (compareOp op') r') (hf' : OpS X.K g r' f') (mono : ∀ x y H Q Q', (∀ z H', Q z H' → Q' z H') → r x y H Q → r x y H Q')
    (ha : RE X g W a ma) (hb : RE X g W b mb) (hc : RE X g W c mc) (hm : lastMarks [op, op'] [b, c] = false := by with_unfolding_all rfl) : RE X g W (.Compare a [op, op'] [b, c] pos) (chainM f f' ma mb mc) :=
  pe_imp (pe_chain ho ho' ha hb hc hm) fun σ H Q t => chain_imp hf hf' mono t
theorem rt_chain {op op' : CmpOp} {r r' : R2} {f f' : V2} (ho : OpR X (compareOp op) r) (hf : OpS X.K g r f) (ho' : OpR X (compareOp op') r') (hf' : OpS X.K g r' f') (mono : ∀ x y H Q Q', (∀ z H', Q z H' → Q' z H') → r x y H Q → r x y H Q')
    (ha : RE X g W a ma) (hb : RE X g W b mb) (hc : RE X g W c mc) (hm : lastMarks [op, op'] [b, c] = false := by with_unfolding_all rfl) : RT X g W (.Compare a [op, op'] [b, c] pos) (blM (chainM f f' ma mb mc)) :=
  pt_imp (pt_chain ho ho' ha hb hc hm) fun σ H Q t => chain_imp hf hf' mono (bl_imp t)

/-! ### and, or, not, if -/
theorem rt_val {e : Expr} {m : ME} (h : RE X g W e m) (he : ∀ whole, isTrue e X.env whole = (do let v ← whole; standAt e.pos; holding [v] (truthy v)) := by intro _; rfl) : RT X g W e (blM m) :=
  pt_imp (pt_val h he) fun σ H Q t => bl_imp t
def andT (a b : MT) : MT := fun sv h => (a sv h).bind fun c h1 => if c then b sv h1 else .ok false h1
def orT (a b : MT) : MT := fun sv h => (a sv h).bind fun c h1 => if c then .ok true h1 else b sv h1
def notT (a : MT) : MT := fun sv h => (a sv h).bind fun c h1 => .ok (!c) h1
variable {ta tb : MT} {rest : List Expr}
theorem rw_and1 (ha : RT X g W a ta) : RW X g W (.BoolOp .And [a] pos) ta := pw_and1 ha
theorem rw_or1 (ha : RT X g W a ta) : RW X g W (.BoolOp .Or [a] pos) ta := pw_or1 ha
theorem rw_and (ha : RT X g W a ta) (hb : RW X g W (.BoolOp .And (b :: rest) pos) tb) : RW X g W (.BoolOp .And (a :: b :: rest) pos) (andT ta tb) :=
  pw_imp (pw_and ha hb) fun σ H Q t => by
    obtain ⟨w, sv, h, rs, hk, p⟩ := t
    refine seqG' rs hk p fun w1 H1 h1 v y e1 rs1 k1 r1 p1 => ?_
    have e : v = y := r1
    subst e
    cases v with
    | true => exact iteT ⟨w1, sv, h1, rs1, k1, p1⟩
    | false => exact iteF (Post.here p1 k1 rfl)
theorem rw_or (ha : RT X g W a ta) (hb : RW X g W (.BoolOp .Or (b :: rest) pos) tb) : RW X g W (.BoolOp .Or (a :: b :: rest) pos) (orT ta tb) :=
  pw_imp (pw_or ha hb) fun σ H Q t => by
    obtain ⟨w, sv, h, rs, hk, p⟩ := t
    refine seqG' rs hk p fun w1 H1 h1 v y e1 rs1 k1 r1 p1 => ?_
    have e : v = y := r1
    subst e
    cases v with
    | true => exact iteT (Post.here p1 k1 rfl)
    | false => exact iteF ⟨w1, sv, h1, rs1, k1, p1⟩
theorem rt_w {e : Expr} (h : RW X g W e ta) : RT X g W e ta := h.pt
theorem rt_not (ha : RT X g W a ta) : RT X g W (.UnaryOp .Not a pos) (notT ta) :=
  pt_imp (pt_not ha) fun σ H Q t => by
    obtain ⟨w, sv, h, rs, hk, p⟩ := t
    refine seqG' rs hk p fun w1 H1 h1 v y e1 rs1 k1 r1 p1 => ?_
    have e : v = y := r1
    subst e
    exact Post.here p1 k1 rfl
/-- .. as values -/
def andV (a b : ME) : ME := fun sv h => (a sv h).bind fun x h1 => match x with
  | .bl true => b sv h1
  | .bl false => .ok (.bl false) h1
  | _ => .bad
def orV (a b : ME) : ME := fun sv h => (a sv h).bind fun x h1 => match x with
  | .bl true => .ok (.bl true) h1
  | .bl false => b sv h1
  | _ => .bad
def notV (a : ME) : ME := fun sv h => (a sv h).bind fun x h1 => match x with
  | .bl c => .ok (.bl (!c)) h1
  | _ => .bad
theorem re_one {op} {m : ME} (h : RE X g W a m) : RE X g W (.BoolOp op [a] pos) m := pe_one h
theorem re_and (ha : RE X g W a ma) (hb : RE X g W (.BoolOp .And (b :: rest) pos) mb) : RE X g W (.BoolOp .And (a :: b :: rest) pos) (andV ma mb) :=
  pe_imp (pe_and ha hb) fun σ H Q t => by
    obtain ⟨w, sv, h, rs, hk, p⟩ := t
    refine seqG' rs hk p fun w1 H1 h1 v y e1 rs1 k1 r1 p1 => ?_
    split at p1
    · have e : y = .bl true := by simpa only [relV, RV] using r1
      exact ⟨true, e, iteT ⟨w1, sv, h1, rs1, k1, p1⟩⟩
    · have e : y = .bl false := by simpa only [relV, RV] using r1
      exact ⟨false, e, iteF (Post.here p1 k1 (by simp only [relV, RV]))⟩
    · exact p1.elim
theorem re_or (ha : RE X g W a ma) (hb : RE X g W (.BoolOp .Or (b :: rest) pos) mb) : RE X g W (.BoolOp .Or (a :: b :: rest) pos) (orV ma mb) :=
  pe_imp (pe_or ha hb) fun σ H Q t => by
    obtain ⟨w, sv, h, rs, hk, p⟩ := t
    refine seqG' rs hk p fun w1 H1 h1 v y e1 rs1 k1 r1 p1 => ?_
    split at p1
    · have e : y = .bl true := by simpa only [relV, RV] using r1
      exact ⟨true, e, iteT (Post.here p1 k1 (by simp only [relV, RV]))⟩
    · have e : y = .bl false := by simpa only [relV, RV] using r1
      exact ⟨false, e, iteF ⟨w1, sv, h1, rs1, k1, p1⟩⟩
    · exact p1.elim
theorem re_not (ha : RE X g W a ma) : RE X g W (.UnaryOp .Not a pos) (notV ma) :=
  pe_imp (pe_not ha) fun σ H Q t => by
    obtain ⟨w, sv, h, rs, hk, p⟩ := t
    refine seqG' rs hk p fun w1 H1 h1 v y e1 rs1 k1 r1 p1 => ?_
    split at p1
    · rename_i c
      have e : y = .bl c := by simpa only [relV, RV] using r1
      exact ⟨c, e, Post.here p1 k1 (by simp only [relV, RV])⟩
    · exact p1.elim
def ifM (c : MT) (a b : ME) : ME := fun sv h => (c sv h).bind fun k h1 => if k then a sv h1 else b sv h1
theorem re_if {mt : MT} (hc : RT X g W c mt) (ha : RE X g W a ma) (hb : RE X g W b mb) : RE X g W (.IfExp c a b pos) (ifM mt ma mb) :=
  pe_imp (pe_ifExp hc ha hb) fun σ H Q t => by
    obtain ⟨w, sv, h, rs, hk, p⟩ := t
    refine seqG' rs hk p fun w1 H1 h1 v y e1 rs1 k1 r1 p1 => ?_
    have e : v = y := r1
    subst e
    cases v with
    | true => exact iteT ⟨w1, sv, h1, rs1, k1, p1⟩
    | false => exact iteF ⟨w1, sv, h1, rs1, k1, p1⟩
end
end Mv
set_option Elab.async false
set_option linter.all false
set_option maxRecDepth 100000
/-! Mv, part C: operators and built-ins by values. -/
namespace Mv
open PySem PySem.Spec PyProof.Rows L2

def fits (n : Nat) : Bool := Nat.ble n 16777216
theorem fits_le {n : Nat} (h : fits n = true) : n ≤ sizeLine := by
  rw [sizeLine_eq]
  exact Nat.le_of_ble_eq_true h

section
variable {K : PySem.W.Frag} {g : Gx} {w : Wd} {H : Hp} {σ : L2.St} {W : WX} {h : VH} {Q : VK}
theorem RV.tup_of {G : Nat → Addr} {a : Addr} {xs : List VV} {ys : List V} (h1 : H a = some (.tup ys)) (h2 : ¬ w.mut a) (h3 : RVs K G w H xs ys) : RV K G w H (.tup xs) (.ref a) := by
  simp only [RV]
  exact ⟨a, ys, rfl, ⟨h1, h2⟩, h3⟩
theorem RV.lst_of {G : Nat → Addr} {a : Addr} {xs : List VV} {ys : List V} (h1 : H a = some (.lst ys)) (h2 : ¬ w.mut a) (h3 : RVs K G w H xs ys) : RV K G w H (.lst xs) (.ref a) := by
  simp only [RV]
  exact ⟨a, ys, rfl, ⟨h1, h2⟩, h3⟩
theorem RV.tup_get {G : Nat → Addr} {xs : List VV} {y : V} (r : RV K G w H (.tup xs) y) : ∃ a ys, y = .ref a ∧ SqT K H a ys ∧ RVs K G w H xs ys := by
  simp only [RV] at r
  obtain ⟨a, ys, e, h, r⟩ := r
  exact ⟨a, ys, e, .inl (.inl h.1), r⟩
theorem KTup.sq {a : Addr} {ys : List V} (h : KTup K a ys) : SqT K H a ys := let ⟨o, its, n, h1, h2, h3, h4, h5, _⟩ := h; .inr ⟨o, its, n, h1, h2, h3, h4, h5⟩
theorem RV.ktu_get {G : Nat → Addr} {xs : List VV} {y : V} (r : RV K G w H (.ktu xs) y) : ∃ a ys, y = .ref a ∧ SqT K H a ys ∧ RVs K G w H xs ys := by
  simp only [RV] at r
  obtain ⟨a, ys, e, h, r⟩ := r
  exact ⟨a, ys, e, h.elim KTup.sq (fun ⟨o, q, _⟩ => .inl (.inr ⟨o, q⟩)), r⟩
theorem RV.lst_get {G : Nat → Addr} {xs : List VV} {y : V} (r : RV K G w H (.lst xs) y) : ∃ a ys, y = .ref a ∧ H a = some (.lst ys) ∧ RVs K G w H xs ys := by
  simp only [RV] at r
  obtain ⟨a, ys, e, h, r⟩ := r
  exact ⟨a, ys, e, h.1, r⟩
theorem RV.rol_get {G : Nat → Addr} {xs : List VV} {y : V} (r : RV K G w H (.rol xs) y) : ∃ a ys, y = .ref a ∧ SqL K H a ys ∧ RVs K G w H xs ys := by
  simp only [RV] at r
  obtain ⟨a, ys, e, h, r⟩ := r
  exact ⟨a, ys, e, h.elim (fun ⟨o, q, _⟩ => .inl (.inr ⟨o, q⟩)) .inr, r⟩
/-- a new list, a new tuple -/
theorem post_newl {xs : List VV} {ys : List V} {p : Addr} (po : Post K g (relV K g) w H σ Q W (.ok (.lst xs) h)) (k : Hk K g.adr w h H) (r : RVs K g.adr w H xs ys) (hp : H p = none) : Q (.ref p) (upd H p (.lst ys)) :=
  po w _ _ (Ext.grow k hp) (Hk.grow k hp) (RV.lst_of upd_same (k.fresh hp) (RVs.mono (Ext.grow k hp).sees _ _ r))
theorem post_newt {xs : List VV} {ys : List V} {p : Addr} (po : Post K g (relV K g) w H σ Q W (.ok (.tup xs) h)) (k : Hk K g.adr w h H) (r : RVs K g.adr w H xs ys) (hp : H p = none) : Q (.ref p) (upd H p (.tup ys)) :=
  po w _ _ (Ext.grow k hp) (Hk.grow k hp) (RV.tup_of upd_same (k.fresh hp) (RVs.mono (Ext.grow k hp).sees _ _ r))
theorem post_int {i : Int} (po : Post K g (relV K g) w H σ Q W (.ok (.int i) h)) (k : Hk K g.adr w h H) : Q (.int i) H := Post.here po k (by simp only [relV, RV])
theorem post_bl {i : Bool} (po : Post K g (relV K g) w H σ Q W (.ok (.bl i) h)) (k : Hk K g.adr w h H) : Q (.bl i) H := Post.here po k (by simp only [relV, RV])
theorem post_str {i : Str} (po : Post K g (relV K g) w H σ Q W (.ok (.str i) h)) (k : Hk K g.adr w h H) : Q (.str i) H := Post.here po k (by simp only [relV, RV])
theorem post_non (po : Post K g (relV K g) w H σ Q W (.ok .non h)) (k : Hk K g.adr w h H) : Q .non H := Post.here po k (by simp only [relV, RV])
theorem RVs.nil_of {G : Nat → Addr} {xs : List VV} {ys : List V} (r : RVs K G w H xs ys) (e : ys = []) : xs = [] := List.length_eq_zero_iff.mp (by rw [r.length, e]; rfl)
theorem RV.int_eq {G : Nat → Addr} {i : Int} {y : V} (r : RV K G w H (.int i) y) : y = .int i := by simpa only [RV] using r
theorem RV.bl_eq {G : Nat → Addr} {i : Bool} {y : V} (r : RV K G w H (.bl i) y) : y = .bl i := by simpa only [RV] using r
theorem RV.str_eq {G : Nat → Addr} {i : Str} {y : V} (r : RV K G w H (.str i) y) : y = .str i := by simpa only [RV] using r
end

/-! ### ints -/
def addV : V2 := fun x y h => match x with
  | .int i => (match y with | .int j => .ok (.int (i + j)) h | .bl k => .ok (.int (i + b2i k)) h | _ => .bad)
  | .lst xs => (match y with | .lst ys => if fits (xs.length + ys.length) then .ok (.lst (xs ++ ys)) h else .bad | _ => .bad)
  | .tup xs => (match y with | .tup ys => if fits (xs.length + ys.length) then .ok (.tup (xs ++ ys)) h else .bad | _ => .bad)
  | .str a => (match y with | .str b => if fits (a.length + b.length) then .ok (.str (a ++ b)) h else .bad | _ => .bad)
  | _ => .bad
abbrev rAddS : R2 := fun x y H Q => ∃ i j, x = .str i ∧ y = .str j ∧ i.length + j.length ≤ sizeLine ∧ Q (.str (i ++ j)) H
abbrev rAddB : R2 := fun x y H Q => ∃ i k, x = .int i ∧ y = .bl k ∧ Q (.int (i + b2i k)) H
abbrev rAddA (K : PySem.W.Frag) : R2 := fun x y H Q => rI0 (fun i j => .int (i + j)) x y H Q ∨ (rAddB x y H Q ∨ (rCat x y H Q ∨ (rCatA K x y H Q ∨ rAddS x y H Q)))
theorem op_addA {X : Cx} : OpR X (binaryOp .Add) (rAddA X.K) := op_add.or (op_add_ib.or (op_cat.or (op_catA.or op_add_str)))
theorem addS {K : PySem.W.Frag} {g : Gx} : OpS K g (rAddA K) addV := by
  intro w h H σ W Q x y vx vy hk rx ry p
  unfold addV at p
  split at p
  · split at p
    · exact .inl ⟨_, _, rx.int_eq, ry.int_eq, post_int p hk⟩
    · exact .inr (.inl ⟨_, _, rx.int_eq, ry.bl_eq, post_int p hk⟩)
    · exact p.elim
  · split at p
    · split at p
      · rename_i hf
        obtain ⟨a, xs', rfl, ha, r1⟩ := rx.lst_get
        obtain ⟨b, ys', rfl, hb, r2⟩ := ry.lst_get
        exact .inr (.inr (.inl ⟨a, b, xs', ys', rfl, rfl, ha, hb, by rw [← r1.length, ← r2.length]; exact fits_le hf, fun q hq => post_newl p hk (r1.app r2) hq⟩))
      · exact p.elim
    · exact p.elim
  · split at p
    · split at p
      · rename_i hf
        obtain ⟨a, xs', rfl, ha, r1⟩ := rx.tup_get
        obtain ⟨b, ys', rfl, hb, r2⟩ := ry.tup_get
        refine .inr (.inr (.inr (.inl ⟨a, b, xs', ys', rfl, rfl, ha, hb, by rw [← r1.length, ← r2.length]; exact fits_le hf, fun e => ?_, fun e1 e2 => ?_, fun _ _ q hq => post_newt p hk (r1.app r2) hq⟩)))
        · rw [RVs.nil_of r1 e, List.nil_append] at p
          exact Post.here p hk ry
        · rw [RVs.nil_of r2 e2, List.append_nil] at p
          exact Post.here p hk rx
      · exact p.elim
    · exact p.elim
  · split at p
    · split at p
      · rename_i hf
        exact .inr (.inr (.inr (.inr ⟨_, _, rx.str_eq, ry.str_eq, fits_le hf, post_str p hk⟩)))
      · exact p.elim
    · exact p.elim
  · exact p.elim

/-- an int operation under a test -/
def intV (c : Int → Int → Bool) (f : Int → Int → Int) : V2 := fun x y h => match x with
  | .int i => (match y with | .int j => if c i j then .ok (.int (f i j)) h else .bad | _ => .bad)
  | _ => .bad
theorem intS {K : PySem.W.Frag} {g : Gx} {C : Int → Int → Prop} {c : Int → Int → Bool} {f : Int → Int → Int} (hc : ∀ i j, c i j = true → C i j) : OpS K g (rI C fun i j => .int (f i j)) (intV c f) := by
  intro w h H σ W Q x y vx vy hk rx ry p
  unfold intV at p
  split at p
  · split at p
    · split at p
      · rename_i hf
        exact ⟨_, _, rx.int_eq, ry.int_eq, hc _ _ hf, post_int p hk⟩
      · exact p.elim
    · exact p.elim
  · exact p.elim
def subV : V2 := intV (fun _ _ => true) fun i j => i - j
theorem op_subA {X : Cx} : OpR X (binaryOp .Sub) (rI (fun _ _ => True) fun i j => .int (i - j)) := opI fun _ _ _ _ _ _ _ _ q => sub_int q
theorem subS {K : PySem.W.Frag} {g : Gx} : OpS K g (rI (fun _ _ => True) fun i j => .int (i - j)) subV := intS fun _ _ _ => trivial
/-- the bits of a number (as the model counts them), by Nat.log2 alone -/
def bitsN (i : Int) : Nat := match i with
  | .ofNat 0 => 0
  | .ofNat (n + 1) => Nat.log2 (n + 1) + 1
  | .negSucc n => Nat.log2 (n + 1) + 1
theorem bitsN_eq (i : Int) : bitsN i = Builtin.Int.intBits i := by
  unfold bitsN Builtin.Int.intBits
  split
  · rfl
  · rename_i n
    rw [if_neg (by first | (simp; done) | (simp; omega))]
    rfl
  · rename_i n
    rw [if_neg (by first | (simp; done) | (simp; omega))]
    rfl
def mulC (i j : Int) : Bool := Nat.ble (bitsN i + bitsN j) 134217728
theorem mulC_ok {i j : Int} (h : mulC i j = true) : CMulX i j := by
  have := Nat.le_of_ble_eq_true h
  rw [bitsN_eq, bitsN_eq] at this
  unfold CMulX
  omega
/-- n times a list, a tuple: any count up to 2 ^ 24 -/
def repL (xs : List VV) (k : Int) : Option (List VV) := match k with
  | .ofNat n => if Nat.ble (xs.length * n) 16777216 && Nat.ble n 16777216 then some (List.replicate n xs).flatten else none
  | .negSucc _ => none
def mulV : V2 := fun x y h => match x with
  | .int i => (match y with | .int j => if mulC i j then .ok (.int (i * j)) h else .bad | _ => .bad)
  | .lst xs => (match y with | .int k => (match repL xs k with | some zs => .ok (.lst zs) h | none => .bad) | _ => .bad)
  | .tup xs => (match y with | .int k => (match (if !xs.isEmpty && decide (2 ≤ k) && decide (k ≤ 1000) && Nat.ble xs.length 1000 then repL xs k else none) with | some zs => .ok (.tup zs) h | none => .bad) | _ => .bad)
  | _ => .bad
theorem RVs.rep {K : PySem.W.Frag} {G : Nat → Addr} {w : Wd} {H : Hp} {xs : List VV} {ys : List V} (r : RVs K G w H xs ys) : ∀ n : Nat, RVs K G w H (List.replicate n xs).flatten (List.replicate n ys).flatten
  | 0 => by simp [RVs]
  | n + 1 => by
    rw [List.replicate_succ, List.replicate_succ, List.flatten_cons, List.flatten_cons]
    exact RVs.app r (RVs.rep r n)
abbrev rMulA (K : PySem.W.Frag) : R2 := fun x y H Q => rI CMulX (fun i j => .int (i * j)) x y H Q ∨ (rRep x y H Q ∨ rRepT K x y H Q)
theorem op_mulA {X : Cx} : OpR X (binaryOp .Mult) (rMulA X.K) := op_mulX.or (op_rep.or op_repT)
theorem repL_ok {xs zs : List VV} {k : Int} (h : repL xs k = some zs) : 0 ≤ k ∧ k ≤ 16777216 ∧ xs.length * k.toNat ≤ 16777216 ∧ zs = (List.replicate k.toNat xs).flatten := by
  unfold repL at h
  split at h
  · rename_i n
    split at h
    · rename_i hc
      obtain ⟨h1, h2⟩ := Bool.and_eq_true_iff.mp hc
      have h1 := Nat.le_of_ble_eq_true h1
      have h2 := Nat.le_of_ble_eq_true h2
      refine ⟨Int.natCast_nonneg _, by show ((n : Nat) : Int) ≤ 16777216; omega, h1, (Option.some.inj h).symm⟩
    · cases h
  · cases h
theorem mulS {K : PySem.W.Frag} {g : Gx} : OpS K g (rMulA K) mulV := by
  intro w h H σ W Q x y vx vy hk rx ry p
  unfold mulV at p
  split at p
  · split at p
    · split at p
      · rename_i hf
        exact .inl ⟨_, _, rx.int_eq, ry.int_eq, mulC_ok hf, post_int p hk⟩
      · exact p.elim
    · exact p.elim
  · split at p
    · rename_i xs _ k
      split at p
      · rename_i zs e
        obtain ⟨h0, h1, h2, rfl⟩ := repL_ok e
        obtain ⟨a, xs', rfl, ha, r1⟩ := rx.lst_get
        refine .inr (.inl ⟨a, k, xs', rfl, ry.int_eq, ha, by omega, by omega, by rw [← r1.length, sizeLine_eq]; exact h2, fun q hq => post_newl p hk (r1.rep _) hq⟩)
      · exact p.elim
    · exact p.elim
  · split at p
    · rename_i xs _ k
      split at p
      · rename_i zs e
        split at e
        · rename_i hc
          simp only [Bool.and_eq_true, Bool.not_eq_true', decide_eq_true_eq] at hc
          obtain ⟨⟨⟨hc1, hc2⟩, hc3⟩, hc4⟩ := hc
          have hc4 := Nat.le_of_ble_eq_true hc4
          obtain ⟨h0, h1, h2, rfl⟩ := repL_ok e
          obtain ⟨a, xs', rfl, ha, r1⟩ := rx.tup_get
          refine .inr (.inr ⟨a, k, xs', rfl, ry.int_eq, ha, ?_, hc2, hc3, by rw [← r1.length]; exact hc4, fun q hq => post_newt p hk (r1.rep _) hq⟩)
          rintro rfl
          have := r1.length
          rw [List.length_nil, List.length_eq_zero_iff] at this
          rw [this] at hc1
          cases hc1
        · cases e
      · exact p.elim
    · exact p.elim
  · exact p.elim
/-- // and % by a positive number -/
def pylongN (i j : Int) : Bool := Builtin.divisionGoesByPylong i j
def fdivV : V2 := intV (fun i j => decide (0 < j) && !pylongN i j) fun i j => i / j
theorem op_fdivA {X : Cx} : OpR X (binaryOp .FloorDiv) (rI CDivP fun i j => .int (i / j)) := opI fun i j _ _ _ _ _ hc q => by
  have h1 : (0 : Int) < j := hc.1
  exact floordiv_int (by omega) (by rw [Int.fdiv_eq_ediv_of_nonneg i (by omega)]; exact q) (.inl hc.2)
theorem fdivS {K : PySem.W.Frag} {g : Gx} : OpS K g (rI CDivP fun i j => .int (i / j)) fdivV := intS fun i j hc => by
  simp only [Bool.and_eq_true, decide_eq_true_eq, Bool.not_eq_true'] at hc
  exact ⟨hc.1, hc.2⟩
def modV : V2 := intV (fun i j => decide (0 < j)) fun i j => i % j
theorem modS {K : PySem.W.Frag} {g : Gx} : OpS K g (rI (fun _ j => 0 < j) fun i j => .int (i % j)) modV := intS fun i j hc => of_decide_eq_true hc
/-- i ** n -/
def CPowX (i j : Int) : Prop := 0 ≤ j ∧ (Builtin.Int.intBits i : Int) * j ≤ 2 ^ 27
def powV : V2 := intV (fun i j => decide (0 ≤ j) && Nat.ble (bitsN i * j.toNat) 134217728) fun i j => i ^ j.toNat
theorem op_powA {X : Cx} : OpR X (binaryOp .Pow) (rI CPowX fun i j => .int (i ^ j.toNat)) := opI fun _ _ _ _ _ _ _ hc q => pow_int hc.1 hc.2 q
theorem powS {K : PySem.W.Frag} {g : Gx} : OpS K g (rI CPowX fun i j => .int (i ^ j.toNat)) powV := intS fun i j hc => by
  simp only [Bool.and_eq_true, decide_eq_true_eq] at hc
  obtain ⟨h1, h2⟩ := hc
  have h2 := Nat.le_of_ble_eq_true h2
  rw [bitsN_eq] at h2
  refine ⟨h1, ?_⟩
  have e : (j.toNat : Int) = j := Int.toNat_of_nonneg h1
  rw [← e, ← Int.natCast_mul]
  omega
def shlV : V2 := intV (fun i j => decide (0 ≤ j) && Nat.ble (bitsN i + j.toNat) 134217728) fun i j => i * 2 ^ j.toNat
theorem shlS {K : PySem.W.Frag} {g : Gx} : OpS K g (rI CShl fun i j => .int (i * 2 ^ j.toNat)) shlV := intS fun i j hc => by
  simp only [Bool.and_eq_true, decide_eq_true_eq] at hc
  obtain ⟨h1, h2⟩ := hc
  have h2 := Nat.le_of_ble_eq_true h2
  rw [bitsN_eq] at h2
  refine ⟨h1, ?_⟩
  have e : (j.toNat : Int) = j := Int.toNat_of_nonneg h1
  omega

/-! ### comparisons -/
def cmpV (f : Int → Int → Bool) : V2 := fun x y h => match x with
  | .int i => (match y with | .int j => .ok (.bl (f i j)) h | _ => .bad)
  | _ => .bad
theorem cmpS {K : PySem.W.Frag} {g : Gx} {f : Int → Int → Bool} : OpS K g (rI0 fun i j => .bl (f i j)) (cmpV f) := by
  intro w h H σ W Q x y vx vy hk rx ry p
  unfold cmpV at p
  split at p
  · split at p
    · exact ⟨_, _, rx.int_eq, ry.int_eq, post_bl p hk⟩
    · exact p.elim
  · exact p.elim
def ltV : V2 := cmpV fun i j => decide (i < j)
def leV : V2 := cmpV fun i j => decide (i ≤ j)
def gtV : V2 := cmpV fun i j => decide (j < i)
def geV : V2 := cmpV fun i j => decide (j ≤ i)
theorem rI0_mono {f : Int → Int → V} : ∀ x y H Q Q', (∀ z H', Q z H' → Q' z H') → rI0 f x y H Q → rI0 f x y H Q' := fun _ _ _ _ _ i ⟨a, b, e1, e2, q⟩ => ⟨a, b, e1, e2, i _ _ q⟩

/-! ### data -/
mutual
def toPy : VV → Option PyData
  | .non => some .none
  | .bl b => some (.bool b)
  | .int i => some (.int i)
  | .str x => some (.str x)
  | .tup xs => (toPys xs).map .tuple
  | .ktu xs => (toPys xs).map .tuple
  | .lst xs => (toPys xs).map .list
  | .rol xs => (toPys xs).map .list
  | _ => none
def toPys : List VV → Option (List PyData)
  | [] => some []
  | x :: xs => (toPy x).bind fun d => (toPys xs).map fun ds => d :: ds
end
section
variable {K : PySem.W.Frag} {G : Nat → Addr} {w : Wd} {H : Hp}
mutual
theorem toPy_ok : ∀ (x : VV) (d : PyData) (y : V), toPy x = some d → RV K G w H x y → Dp K H y d
  | .non, _, _, e, r => by
    simp only [toPy, Option.some.injEq] at e
    simp only [RV] at r
    subst e r
    exact .non
  | .bl b, _, _, e, r => by
    simp only [toPy, Option.some.injEq] at e
    simp only [RV] at r
    subst e r
    exact .bl b
  | .int b, _, _, e, r => by
    simp only [toPy, Option.some.injEq] at e
    simp only [RV] at r
    subst e r
    exact .int b
  | .str b, _, _, e, r => by
    simp only [toPy, Option.some.injEq] at e
    simp only [RV] at r
    subst e r
    exact .str b
  | .tup xs, _, _, e, r => by
    simp only [toPy, Option.map_eq_some_iff] at e
    obtain ⟨ds, e1, rfl⟩ := e
    obtain ⟨a, ys, rfl, ha, r2⟩ := r.tup_get
    exact .tup ha (toPys_ok xs ds ys e1 r2)
  | .ktu xs, _, _, e, r => by
    simp only [toPy, Option.map_eq_some_iff] at e
    obtain ⟨ds, e1, rfl⟩ := e
    obtain ⟨a, ys, rfl, ha, r2⟩ := r.ktu_get
    exact .tup ha (toPys_ok xs ds ys e1 r2)
  | .lst xs, _, _, e, r => by
    simp only [toPy, Option.map_eq_some_iff] at e
    obtain ⟨ds, e1, rfl⟩ := e
    obtain ⟨a, ys, rfl, ha, r2⟩ := r.lst_get
    exact .lst (SqL.of ha) (toPys_ok xs ds ys e1 r2)
  | .rol xs, _, _, e, r => by
    simp only [toPy, Option.map_eq_some_iff] at e
    obtain ⟨ds, e1, rfl⟩ := e
    obtain ⟨a, ys, rfl, ha, r2⟩ := r.rol_get
    exact .lst ha (toPys_ok xs ds ys e1 r2)
  | .ty _, _, _, e, _ => by simp only [toPy] at e; cases e
  | .dct _ _, _, _, e, _ => by simp only [toPy] at e; cases e
  | .dtt _ _, _, _, e, _ => by simp only [toPy] at e; cases e
  | .ins _ _, _, _, e, _ => by simp only [toPy] at e; cases e
  | .ref _, _, _, e, _ => by simp only [toPy] at e; cases e
  | .adr _, _, _, e, _ => by simp only [toPy] at e; cases e
theorem toPys_ok : ∀ (xs : List VV) (ds : List PyData) (ys : List V), toPys xs = some ds → RVs K G w H xs ys → DpAll K H ys ds
  | [], _, _, e, r => by
    simp only [toPys, Option.some.injEq] at e
    simp only [RVs] at r
    subst e r
    exact .nil
  | x :: xs, _, _, e, r => by
    simp only [toPys, Option.bind_eq_some_iff, Option.map_eq_some_iff] at e
    obtain ⟨d, e1, ds, e2, rfl⟩ := e
    simp only [RVs] at r
    obtain ⟨y, ys, rfl, r1, r2⟩ := r
    exact .cons (toPy_ok x d y e1 r1) (toPys_ok xs ds ys e2 r2)
end
end
/-- ==, != of data -/
def eqO (x y : VV) : Option Bool := (toPy x).bind fun d => (toPy y).bind fun e => if SeqAt.shaped d && SeqAt.shaped e then some (PyData.eqv d e) else none
def eqV (neg : Bool) : V2 := fun x y h => match eqO x y with
  | some b => .ok (.bl (if neg then !b else b)) h
  | none => .bad
theorem eqO_ok {x y : VV} {b : Bool} (h : eqO x y = some b) : ∃ d e, toPy x = some d ∧ toPy y = some e ∧ SeqAt.shaped d = true ∧ SeqAt.shaped e = true ∧ PyData.eqv d e = b := by
  unfold eqO at h
  obtain ⟨d, h1, h⟩ := Option.bind_eq_some_iff.mp h
  obtain ⟨e, h2, h⟩ := Option.bind_eq_some_iff.mp h
  split at h
  · rename_i hs
    obtain ⟨s1, s2⟩ := Bool.and_eq_true_iff.mp hs
    exact ⟨d, e, h1, h2, s1, s2, Option.some.inj h⟩
  · cases h
theorem eqS {K : PySem.W.Frag} {g : Gx} : OpS K g (rEqD K) (eqV false) := by
  intro w h H σ W Q x y vx vy hk rx ry p
  unfold eqV at p
  split at p
  · rename_i b e
    obtain ⟨d1, d2, h1, h2, s1, s2, e3⟩ := eqO_ok e
    subst e3
    exact ⟨d1, d2, toPy_ok _ _ _ h1 rx, toPy_ok _ _ _ h2 ry, s1, s2, post_bl p hk⟩
  · exact p.elim
theorem neS {K : PySem.W.Frag} {g : Gx} : OpS K g (rNeD K) (eqV true) := by
  intro w h H σ W Q x y vx vy hk rx ry p
  unfold eqV at p
  split at p
  · rename_i b e
    obtain ⟨d1, d2, h1, h2, s1, s2, e3⟩ := eqO_ok e
    subst e3
    exact ⟨d1, d2, toPy_ok _ _ _ h1 rx, toPy_ok _ _ _ h2 ry, s1, s2, post_bl p hk⟩
  · exact p.elim
end Mv
set_option Elab.async false
set_option linter.all false
set_option maxRecDepth 100000
/-! Mv, part D: argument lists, displays, subscripts, slices, built-ins called. -/
namespace Mv
open PySem PySem.Spec PyProof.Rows L2

/-! ### argument lists -/
def nilA : MA := fun _ h => .ok [] h
def consA (m : ME) (r : MA) : MA := fun sv h => (m sv h).bind fun x h1 => (r sv h1).bind fun xs h2 => .ok (x :: xs) h2
/-- *e, e a list or a tuple -/
def starA (m : ME) (r : MA) : MA := fun sv h => (m sv h).bind fun x h1 => match x with
  | .tup ys => (r sv h1).bind fun xs h2 => .ok (ys ++ xs) h2
  | .lst ys => (r sv h1).bind fun xs h2 => .ok (ys ++ xs) h2
  | .ktu ys => (r sv h1).bind fun xs h2 => .ok (ys ++ xs) h2
  | _ => .bad
section
variable {X : Cx} {g : Gx} {W : WX} {e : Expr} {es : List Expr} {m : ME} {ma : MA} {pos : Pos}
theorem ra_nil : RA X g W [] nilA := pa_imp pa_nil fun σ H Q ⟨w, sv, h, rs, hk, p⟩ => Post.here p hk (by simp only [relVs, RVs])
theorem ra_cons (ha : RE X g W e m) (hr : RA X g W es ma) (hs : starEach (e :: es) X.env = (false, eval e X.env) :: starEach es X.env := by rfl) : RA X g W (e :: es) (consA m ma) :=
  pa_imp (pa_cons ha hr hs) fun σ H Q ⟨w, sv, h, rs, hk, p⟩ => by
    refine seqG' rs hk p fun w1 H1 h1 v y e1 rs1 k1 r1 p1 => ?_
    refine seqG' rs1 k1 p1 fun w2 H2 h2 v2 y2 e2 rs2 k2 r2 p2 => ?_
    refine Post.here p2 k2 ?_
    simp only [relVs, RVs]
    exact ⟨y, y2, rfl, RV.mono e2.sees _ _ r1, r2⟩
/-- the items that *e hands on, e a list -/
theorem star_lst {pins : List (Addr × Obj)} {σ : L2.St} {H : Hp} {s : Shared} {a : Addr} {xs : List V} {E : Value → Shared → Prop} {Q : List Value → Shared → Prop} (I : Inv X pins σ H s) (h : SqL X.K H a xs) (hQ : ∀ us s', Inv X pins σ H s' → Vals xs us → Q us s') :
    PySem.W.StarOf (model X.prog X.w) X.A E (.ref a) Q s := by
  obtain ⟨its, r, pl, hz⟩ := I.list h
  obtain ⟨o, n, ho, hc, hdd, hd⟩ := id pl
  have hT : s.TypeIs (.ref a) "list" := ⟨o, ho, hc⟩
  have hl := r.length
  have z : wpAny (model X.prog X.w) X.A (collect (.ref a)) Q E s := by
    refine wpAny_collect_seq a (.inl rfl) ho hc hd (fun h' hk => ?_) (by rw [List.size_toArray]; omega)
    have e : its.toArray.toList = its := by simp
    rw [e]
    exact hQ its _ (I.kept (t' := s.toks) hk) r
  unfold PySem.W.StarOf notIterableAtAll
  exact wpAny_bind (wpAny_specialOf hT PySem.slot_list_iter.lookup (wpAny_pure ⟨rfl, z⟩))
/-- a starred argument's reading -/
def tStar (K : PySem.W.Frag) (te : TE) (tr : TA) : TA := fun σ H Q => te σ H fun x H1 => ∃ a xs, x = .ref a ∧ (SqL K H1 a xs ∨ SqT K H1 a xs) ∧ tr σ H1 fun ys H2 => Q (xs ++ ys) H2
theorem pa_star {te : TE} {tr : TA} (ha : PE X e te) (hr : PA X es tr) : PA X (.Starred e pos :: es) (tStar X.K te tr) := by
  refine ⟨fun p2 pins s σ H Q I h => ?_⟩
  show wpAny _ _ (spliced ((true, (do let v ← eval e X.env; standAt p2; pure v)) :: backTo p2 (starEach es X.env))) _ _ s
  refine PySem.W.ks_spliced (thn (ha.run pins s σ H _ I h) fun u s1 ⟨x, H1, I1, r1, a, xs, ex, hs, q⟩ => ?_)
  subst ex
  cases r1
  have fin : ∀ us s', Inv X pins σ H1 s' → Vals xs us → wpAny (model X.prog X.w) X.A (spliced (backTo p2 (starEach es X.env))) (fun vs s3 => AP X pins σ Q (us ++ vs) s3) X.xe s' := fun us s' I' rv =>
    thn (hr.run p2 pins s' σ H1 _ I' q) fun vs s3 ⟨ys, H3, I3, r3, q3⟩ => ⟨xs ++ ys, H3, I3, rv.append r3, q3⟩
  rcases hs with hs | hs
  · exact star_lst I1 hs fin
  · exact star_tup I1 hs fin
theorem ra_star (ha : RE X g W e m) (hr : RA X g W es ma) : RA X g W (.Starred e pos :: es) (starA m ma) :=
  pa_imp (pa_star ha hr) fun σ H Q ⟨w, sv, h, rs, hk, p⟩ => by
    refine seqG' rs hk p fun w1 H1 h1 v y e1 rs1 k1 r1 p1 => ?_
    split at p1
    · obtain ⟨a, ys', rfl, ha, r3⟩ := RV.tup_get r1
      refine ⟨a, ys', rfl, .inr ha, ?_⟩
      refine seqG' rs1 k1 p1 fun w2 H2 h2 v2 y2 e2 rs2 k2 r2 p2 => ?_
      exact Post.here p2 k2 (RVs.app (RVs.mono e2.sees _ _ r3) r2)
    · obtain ⟨a, ys', rfl, ha, r3⟩ := RV.lst_get r1
      refine ⟨a, ys', rfl, .inl (SqL.of ha), ?_⟩
      refine seqG' rs1 k1 p1 fun w2 H2 h2 v2 y2 e2 rs2 k2 r2 p2 => ?_
      exact Post.here p2 k2 (RVs.app (RVs.mono e2.sees _ _ r3) r2)
    · obtain ⟨a, ys', rfl, ha, r3⟩ := RV.ktu_get r1
      refine ⟨a, ys', rfl, .inr ha, ?_⟩
      refine seqG' rs1 k1 p1 fun w2 H2 h2 v2 y2 e2 rs2 k2 r2 p2 => ?_
      exact Post.here p2 k2 (RVs.app (RVs.mono e2.sees _ _ r3) r2)
    · exact p1.elim

/-! ### displays -/
def tupM (a : MA) : ME := fun sv h => (a sv h).bind fun xs h1 => if fits xs.length then .ok (.tup xs) h1 else .bad
def lstM (a : MA) : ME := fun sv h => (a sv h).bind fun xs h1 => if fits xs.length then .ok (.lst xs) h1 else .bad
theorem re_tup {x1} (ha : RA X g W es ma) : RE X g W (.Tuple es x1 pos) (tupM ma) :=
  pe_imp (pe_tup ha) fun σ H Q ⟨w, sv, h, rs, hk, p⟩ => by
    refine seqG' rs hk p fun w1 H1 h1 v y e1 rs1 k1 r1 p1 => ?_
    split at p1
    · rename_i hf
      exact ⟨by rw [← RVs.length r1]; exact fits_le hf, fun q hq => post_newt p1 k1 r1 hq⟩
    · exact p1.elim
theorem re_lst (ha : RA X g W es ma) : RE X g W (.List es pos) (lstM ma) :=
  pe_imp (pe_lst ha) fun σ H Q ⟨w, sv, h, rs, hk, p⟩ => by
    refine seqG' rs hk p fun w1 H1 h1 v y e1 rs1 k1 r1 p1 => ?_
    split at p1
    · rename_i hf
      exact ⟨by rw [← RVs.length r1]; exact fits_le hf, fun q hq => post_newl p1 k1 r1 hq⟩
    · exact p1.elim
/-- a list of the small heap -/
def newM (a : MA) : ME := fun sv h => (a sv h).bind fun xs h1 => if fits xs.length then .ok (.ref h1.length) (h1 ++ [.lst xs]) else .bad
section
variable {K : PySem.W.Frag} {g : Gx} {w : Wd} {H : Hp} {σ : L2.St} {W : WX} {h : VH} {Q : VK}
def Wd.push (w : Wd) (p : Addr) : Wd := { w with phi := w.phi ++ [some p] }
theorem mut_push {p a : Addr} : (w.push p).mut a → w.mut a ∨ a = p := by
  intro h
  rcases h with h | h | h
  · rcases List.mem_append.mp h with h | h
    · exact .inl (.inl h)
    · simp at h
      exact .inr h
  · exact .inl (.inr (.inl h))
  · exact .inl (.inr (.inr h))
theorem Ext.push (k : Hk K g.adr w h H) {o : HO} {p : Addr} (hp : H p = none) : Ext w H (w.push p) (upd H p o) where
  keep := fun a u q m => by
    have ne := ne_of_none q hp
    exact ⟨by rw [upd_ne ne]; exact q, fun z => (mut_push z).elim m ne⟩
  refs := fun n b hn q => by
    unfold Wd.push at q
    rw [List.getElem?_append_left hn] at q
    exact q
  len := by unfold Wd.push; simp
  P := rfl
  O := rfl
  prot := fun a ha => upd_ne fun e => k.live (.inr ha) (e ▸ hp)
theorem Hk.push (k : Hk K g.adr w h H) {o : HO} {vo : VO} {p : Addr} (hp : H p = none) (r : RO K g.adr (w.push p) (upd H p o) vo p) (hd : dat o = true := by rfl) : Hk K g.adr (w.push p) (h ++ [vo]) (upd H p o) where
  len := by unfold Wd.push; simp [k.len]
  inj := fun n m a hn hm => by
    unfold Wd.push at hn hm
    have key : ∀ (i : Nat), (w.phi ++ [some p])[i]? = some (some a) → (i < w.phi.length ∧ w.phi[i]? = some (some a)) ∨ (i = w.phi.length ∧ a = p) := fun i hi => by
      by_cases c : i < w.phi.length
      · rw [List.getElem?_append_left c] at hi
        exact .inl ⟨c, hi⟩
      · rw [List.getElem?_append_right (Nat.le_of_not_lt c)] at hi
        have : i - w.phi.length = 0 := by
          cases z : i - w.phi.length with
          | zero => rfl
          | succ j => rw [z] at hi; simp at hi
        rw [this] at hi
        simp at hi
        exact .inr ⟨by omega, hi.symm⟩
    have no : ∀ (i : Nat), w.phi[i]? = some (some p) → False := fun i hi => k.live (.inl (List.mem_of_getElem? hi)) hp
    rcases key n hn with ⟨c1, e1⟩ | ⟨c1, e1⟩ <;> rcases key m hm with ⟨c2, e2⟩ | ⟨c2, e2⟩
    · exact k.inj n m a e1 e2
    · subst e2; exact (no _ e1).elim
    · subst e1; exact (no _ e2).elim
    · omega
  obj := fun n a hn => by
    unfold Wd.push at hn
    by_cases c : n < w.phi.length
    · rw [List.getElem?_append_left c] at hn
      obtain ⟨u, h1, h2⟩ := k.obj n a hn
      refine ⟨u, by rw [List.getElem?_append_left (by rw [← k.len]; exact c)]; exact h1, RO.mono (Ext.push k hp).sees u a (fun z q => by rw [upd_ne (ne_of_none q hp)]; exact q) h2⟩
    · rw [List.getElem?_append_right (Nat.le_of_not_lt c)] at hn
      have : n - w.phi.length = 0 := by
        cases z : n - w.phi.length with
        | zero => rfl
        | succ j => rw [z] at hn; simp at hn
      rw [this] at hn
      simp at hn
      subst hn
      have en : n = h.length := by rw [← k.len]; omega
      exact ⟨vo, by rw [en]; simp, r⟩
  has := fun n u hn hd => by
    unfold Wd.push
    by_cases c : n < h.length
    · rw [List.getElem?_append_left c] at hn
      obtain ⟨a, ha⟩ := k.has n u hn hd
      exact ⟨a, by rw [List.getElem?_append_left (by rw [k.len]; exact c)]; exact ha⟩
    · have c2 := (List.getElem?_eq_some_iff.mp hn).1
      rw [List.length_append, List.length_singleton] at c2
      have en : n = w.phi.length := by rw [k.len]; omega
      exact ⟨p, by rw [en]; simp⟩
  prot := fun a ha => by
    obtain ⟨h1, h2⟩ := k.prot a ha
    have ne : a ≠ p := fun e => h1 (by rw [e]; exact hp)
    refine ⟨by rw [upd_ne ne]; exact h1, ?_⟩
    unfold Wd.push
    intro z
    rcases List.mem_append.mp z with z | z
    · exact h2 z
    · simp at z; exact ne z
  own := k.own
  ownI := k.ownI
  spc := k.spc.upd hd fun a ne => ⟨fun z => List.mem_append_left _ z, fun z => (mut_push z).elim id fun e => (ne e).elim⟩
end
theorem re_new (ha : RA X g W es ma) : RE X g W (.List es pos) (newM ma) :=
  pe_imp (pe_lst ha) fun σ H Q ⟨w, sv, h, rs, hk, p⟩ => by
    refine seqG' rs hk p fun w1 H1 h1 v y e1 rs1 k1 r1 p1 => ?_
    split at p1
    · rename_i hf
      refine ⟨by rw [← RVs.length r1]; exact fits_le hf, fun q hq => ?_⟩
      have ex := Ext.push (o := .lst y) k1 hq
      refine p1 _ _ _ ex (Hk.push k1 hq ⟨y, upd_same, RVs.mono ex.sees _ _ r1⟩) ?_
      simp only [relV, RV]
      refine ⟨q, rfl, by unfold Wd.push; simp [k1.len], fun b hb => ?_⟩
      unfold Wd.push at hb
      rw [← k1.len] at hb
      simp at hb
      exact hb.symm
    · exact p1.elim

/-! ### a[b] -/
theorem RVs.atI {K : PySem.W.Frag} {G : Nat → Addr} {w : Wd} {H : Hp} {xs : List VV} {ys : List V} (r : RVs K G w H xs ys) {i : Int} {v : VV} (h : atI xs i = some v) : ∃ y, L2.atI ys i = some y ∧ RV K G w H v y := by
  unfold L2.atI at h ⊢
  rw [← r.length]
  cases e : ixN xs.length i with
  | none => rw [e] at h; cases h
  | some j =>
    rw [e] at h
    exact r.get j v h
def ixV : V2 := fun x y h => match y with
  | .int i => (match x with
    | .tup xs => (match atI xs i with | some v => .ok v h | none => .bad)
    | .lst xs => (match atI xs i with | some v => .ok v h | none => .bad)
    | .rol xs => (match atI xs i with | some v => .ok v h | none => .bad)
    | .ktu xs => (match atI xs i with | some v => .ok v h | none => .bad)
    | .str z => if fits z.length then (match atI z.cps.toList i with | some c => .ok (.str ⟨#[c]⟩) h | none => .bad) else .bad
    | .ref n => (match h[n]? with | some (.lst xs) => (match atI xs i with | some v => .ok v h | none => .bad) | _ => .bad)
    | _ => .bad)
  | _ => .bad
theorem ref_obj {K : PySem.W.Frag} {g : Gx} {w : Wd} {H : Hp} {h : VH} {n : Nat} {y : V} {o : VO} (hk : Hk K g.adr w h H) (r : RV K g.adr w H (.ref n) y) (e : h[n]? = some o) (hd : o ≠ .dead) : ∃ a, y = .ref a ∧ w.phi[n]? = some (some a) ∧ RO K g.adr w H o a := by
  simp only [RV] at r
  obtain ⟨a, rfl, h1, h2⟩ := r
  obtain ⟨b, hb⟩ := hk.has n _ e hd
  have eb := h2 b hb
  subst eb
  obtain ⟨o', h3, h4⟩ := hk.obj n b hb
  rw [e] at h3
  cases h3
  exact ⟨b, rfl, hb, h4⟩
/-- what comes is locked -/
def tFz (t : TE) : TE := fun σ H Q => t σ H fun v H1 => ∃ d u, v = .ref d ∧ H1 d = some u ∧ Mut (some u) ∧ ∀ od, Q v (upd H1 d (.frz od u))
theorem pe_lock {X : Cx} {e : Expr} {t : TE} (h : PE X e t) : PE X e (tFz t) := ⟨fun pins s σ H Q I q => thn (h.run pins s σ H _ I q) fun v s1 ⟨x, H1, I1, rx, d, u, ex, hd, mu, q1⟩ => by
  obtain ⟨od, I2⟩ := I1.lock hd mu
  exact ⟨x, _, I2, rx, q1 od⟩⟩
theorem ref_get {K : PySem.W.Frag} {g : Gx} {w : Wd} {H : Hp} {h : VH} {n : Nat} {y : V} {xs : List VV} (hk : Hk K g.adr w h H) (r : RV K g.adr w H (.ref n) y) (e : h[n]? = some (.lst xs)) : ∃ a ys, y = .ref a ∧ w.phi[n]? = some (some a) ∧ H a = some (.lst ys) ∧ RVs K g.adr w H xs ys := by
  simp only [RV] at r
  obtain ⟨a, rfl, h1, h2⟩ := r
  obtain ⟨b, hb⟩ := hk.has n _ e (by intro z; cases z)
  have eb := h2 b hb
  subst eb
  obtain ⟨o, h3, h4⟩ := hk.obj n b hb
  rw [e] at h3
  cases h3
  obtain ⟨ys, h5, h6⟩ := h4
  exact ⟨b, ys, rfl, hb, h5, h6⟩
theorem ixS {K : PySem.W.Frag} {g : Gx} : OpS K g (rIx K) ixV := by
  intro w h H σ W Q x y vx vy hk rx ry p
  unfold ixV at p
  split at p
  · split at p
    · split at p
      · rename_i v e
        obtain ⟨a, ys, rfl, ha, r1⟩ := rx.tup_get
        obtain ⟨z, e1, r2⟩ := r1.atI e
        exact .inr (.inl ⟨a, ys, _, z, rfl, ry.int_eq, ha, e1, Post.here p hk r2⟩)
      · exact p.elim
    · split at p
      · rename_i v e
        obtain ⟨a, ys, rfl, ha, r1⟩ := rx.lst_get
        obtain ⟨z, e1, r2⟩ := r1.atI e
        exact .inl ⟨a, ys, _, z, rfl, ry.int_eq, SqL.of ha, e1, Post.here p hk r2⟩
      · exact p.elim
    · split at p
      · rename_i v e
        obtain ⟨a, ys, rfl, ha, r1⟩ := rx.rol_get
        obtain ⟨z, e1, r2⟩ := r1.atI e
        exact .inl ⟨a, ys, _, z, rfl, ry.int_eq, ha, e1, Post.here p hk r2⟩
      · exact p.elim
    · split at p
      · rename_i v e
        obtain ⟨a, ys, rfl, ha, r1⟩ := rx.ktu_get
        obtain ⟨z, e1, r2⟩ := r1.atI e
        exact .inr (.inl ⟨a, ys, _, z, rfl, ry.int_eq, ha, e1, Post.here p hk r2⟩)
      · exact p.elim
    · split at p
      · split at p
        · rename_i hf _ c e
          exact .inr (.inr ⟨_, _, c, rx.str_eq, ry.int_eq, fits_le hf, e, post_str p hk⟩)
        · exact p.elim
      · exact p.elim
    · split at p
      · rename_i xs e0
        split at p
        · rename_i v e
          obtain ⟨a, ys, rfl, _, ha, r1⟩ := ref_get hk rx e0
          obtain ⟨z, e1, r2⟩ := r1.atI e
          exact .inl ⟨a, ys, _, z, rfl, ry.int_eq, SqL.of ha, e1, Post.here p hk r2⟩
        · exact p.elim
      · exact p.elim
    · exact p.elim
  · exact p.elim
theorem re_ix {a b : Expr} {ma mb : ME} (ha : RE X g W a ma) (hb : RE X g W b mb) (hs : PlainIx b := by intro _ _; rfl) : RE X g W (.Subscript a b pos) (opM ixV ma mb) :=
  pe_imp (pe_ix ix_seq ha hb hs) fun σ H Q t => op_imp ixS t

/-! ### slices -/
abbrev MO := Sv → VH → Out (Option Int)
def relO : Rel (Option Int) (Option Int) := fun _ _ a b => a = b
abbrev RO' (X : Cx) (g : Gx) (W : WX) (e : Option Expr) (m : MO) : Prop := PO X e (tG X.K g relO m W)
theorem po_imp {e : Option Expr} {t t' : TO} (h : PO X e t) (i : ∀ σ H Q, t' σ H Q → t σ H Q) : PO X e t' := ⟨fun pins s σ H Q I q => h.run pins s σ H Q I (i σ H Q q)⟩
def noneO : MO := fun _ h => .ok none h
def someO (m : ME) : MO := fun sv h => (m sv h).bind fun x h1 => match x with
  | .int i => .ok (some i) h1
  | _ => .bad
theorem ro_none : RO' X g W none noneO := po_imp po_none fun σ H Q ⟨w, sv, h, rs, hk, p⟩ => Post.here p hk rfl
theorem ro_some (ha : RE X g W e m) : RO' X g W (some e) (someO m) := po_imp (po_some ha) fun σ H Q ⟨w, sv, h, rs, hk, p⟩ => by
  refine seqG' rs hk p fun w1 H1 h1 v y e1 rs1 k1 r1 p1 => ?_
  split at p1
  · exact ⟨_, RV.int_eq r1, Post.here p1 k1 rfl⟩
  · exact p1.elim
def cutG {α : Type} (xs : List α) (lo hi : Option Int) : List α := (xs.drop (HT.sIx xs.length 0 lo)).take (HT.sIx xs.length xs.length hi - HT.sIx xs.length 0 lo)
theorem RVs.cut {K : PySem.W.Frag} {G : Nat → Addr} {w : Wd} {H : Hp} {xs : List VV} {ys : List V} (r : RVs K G w H xs ys) (lo hi : Option Int) : RVs K G w H (cutG xs lo hi) (cutV ys lo hi) := by
  unfold cutG cutV
  rw [← r.length]
  exact (r.drop _).take _
def sliceV (x : VV) (lo hi : Option Int) (h : VH) : Out VV := match x with
  | .tup xs => .ok (.tup (cutG xs lo hi)) h
  | .lst xs => .ok (.lst (cutG xs lo hi)) h
  | .rol xs => .ok (.lst (cutG xs lo hi)) h
  | .ktu xs => if HT.sIx xs.length 0 lo = 0 ∧ HT.sIx xs.length xs.length hi = xs.length then .ok (.ktu xs) h else .ok (.tup (cutG xs lo hi)) h
  | _ => .bad
def sliceM (a : ME) (lo hi : MO) : ME := fun sv h => (a sv h).bind fun x h1 => (lo sv h1).bind fun l h2 => (hi sv h2).bind fun u h3 => sliceV x l u h3
theorem re_slice {lo hi : Option Expr} {ml mh : MO} {p2 : Pos} (he : RE X g W e m) (hl : RO' X g W lo ml) (hu : RO' X g W hi mh) : RE X g W (.Subscript e (.Slice lo hi none p2) pos) (sliceM m ml mh) :=
  pe_imp (pe_slice (sl_list.or sl_tupA) he hl hu) fun σ H Q ⟨w, sv, h, rs, hk, p⟩ => by
    refine seqG' rs hk p fun w1 H1 h1 v y e1 rs1 k1 r1 p1 => ?_
    refine seqG' rs1 k1 p1 fun w2 H2 h2 l l' e2 rs2 k2 r2 p2 => ?_
    refine seqG' rs2 k2 p2 fun w3 H3 h3 u u' e3 rs3 k3 r3 p3 => ?_
    have el : l = l' := r2
    have eu : u = u' := r3
    subst el eu
    have rv := RV.mono (e2.trans e3).sees _ _ r1
    unfold sliceV at p3
    split at p3
    · rename_i xs
      have rv0 := rv
      obtain ⟨a, ys, rfl, ha, r4⟩ := rv.tup_get
      refine .inr ⟨a, ys, rfl, ha, fun c => ?_, fun _ q hq => post_newt p3 k3 (r4.cut l u) hq⟩
      have hc : cutG xs l u = xs := by
        unfold cutG
        rw [r4.length, c.1, c.2, List.drop_zero, Nat.sub_zero, ← r4.length, List.take_length]
      rw [hc] at p3
      exact Post.here p3 k3 rv0
    · obtain ⟨a, ys, rfl, ha, r4⟩ := rv.lst_get
      exact .inl ⟨a, ys, rfl, SqL.of ha, fun q hq => post_newl p3 k3 (r4.cut l u) hq⟩
    · obtain ⟨a, ys, rfl, ha, r4⟩ := rv.rol_get
      exact .inl ⟨a, ys, rfl, ha, fun q hq => post_newl p3 k3 (r4.cut l u) hq⟩
    · rename_i xs
      have rv0 := rv
      obtain ⟨a, ys, rfl, ha, r4⟩ := rv.ktu_get
      rw [r4.length] at p3
      refine .inr ⟨a, ys, rfl, ha, fun c => ?_, fun c q hq => ?_⟩
      · rw [if_pos c] at p3
        exact Post.here p3 k3 rv0
      · rw [if_neg c] at p3
        exact post_newt p3 k3 (r4.cut l u) hq
    · exact p3.elim

/-! ### built-ins, called by their names -/
abbrev VF := List VV → VH → Out VV
def callM (f : VF) (a : MA) : ME := fun sv h => (a sv h).bind f
def CallS (K : PySem.W.Frag) (g : Gx) (r : List V → Hp → VK → Prop) (f : VF) : Prop := ∀ (w : Wd) (h : VH) (H : Hp) (σ : L2.St) (W : WX) (Q : VK) (xs : List VV) (vs : List V), Hk K g.adr w h H → RVs K g.adr w H xs vs → Post K g (relV K g) w H σ Q W (f xs h) → r vs H Q
theorem call_imp {r : List V → Hp → VK → Prop} {f : VF} (hf : CallS X.K g r f) {σ : L2.St} {H : Hp} {Q : VK} (t : tG X.K g (relV X.K g) (callM f ma) W σ H Q) : tCB r (tG X.K g (relVs X.K g) ma W) σ H Q := by
  obtain ⟨w, sv, h, rs, hk, p⟩ := t
  refine seqG' rs hk p fun w1 H1 h1 v y e1 rs1 k1 r1 p1 => ?_
  exact hf w1 h1 H1 σ W Q v y k1 r1 p1
theorem re_callB {x : Str} {p : Pos} {id : String} {r : List V → Hp → VK → Prop} {f : VF} (hc : CallR X (.builtin id) r) (hf : CallS X.K g r f) (hg : Gl X x) (hm : X.mg x = none) (hv : bootBuiltins x = some (.builtin id)) (ha : RA X g W (e :: es) ma) (hn : x ≠ "__name__" := by decide)
    (hdb : (x == ("__debug__" : Str)) = false := by decide) (he : starEach (e :: es) X.env = (false, eval e X.env) :: starEach es X.env := by rfl) (hpl : (backTo pos (starEach es X.env)).any (·.1) = false := by rfl) : RE X g W (.Call (.Name x p) (e :: es) [] pos) (callM f ma) :=
  pe_imp (pe_callB hc hg hm hv ha hn hdb he hpl) fun σ H Q t => call_imp hf t
theorem re_callTy {x : Str} {p : Pos} {T : String} {r : List V → Hp → VK → Prop} {f : VF} (hc : CallR X (.type T) r) (hf : CallS X.K g r f) (hg : Gl X x) (hm : X.mg x = none) (hv : bootBuiltins x = some (.type T)) (ha : RA X g W (e :: es) ma) (hn : x ≠ "__name__" := by decide)
    (hdb : (x == ("__debug__" : Str)) = false := by decide) (he : starEach (e :: es) X.env = (false, eval e X.env) :: starEach es X.env := by rfl) (hpl : (backTo pos (starEach es X.env)).any (·.1) = false := by rfl) : RE X g W (.Call (.Name x p) (e :: es) [] pos) (callM f ma) :=
  pe_imp (pe_callTy hc hg hm hv ha hn hdb he hpl) fun σ H Q t => call_imp hf t
theorem re_callBfun {x : Str} {p : Pos} {id : String} {r : List V → Hp → VK → Prop} {f : VF} (hc : CallR X (.builtin id) r) (hf : CallS X.K g r f) (hg : Gl X x) (hm : X.mg x = some (.builtin id)) (ha : RA X g W (e :: es) ma)
    (hdb : (x == ("__debug__" : Str)) = false := by decide) (he : starEach (e :: es) X.env = (false, eval e X.env) :: starEach es X.env := by rfl) (hpl : (backTo pos (starEach es X.env)).any (·.1) = false := by rfl) : RE X g W (.Call (.Name x p) (e :: es) [] pos) (callM f ma) :=
  pe_imp (pe_callBfun hc hg hm ha hdb he hpl) fun σ H Q t => call_imp hf t
end
section
variable {K : PySem.W.Frag} {g : Gx} {w : Wd} {H : Hp} {h : VH}
theorem RVs.one {G : Nat → Addr} {x : VV} {vs : List V} (r : RVs K G w H [x] vs) : ∃ y, vs = [y] ∧ RV K G w H x y := by
  simp only [RVs] at r
  obtain ⟨y, t, rfl, r1, rfl⟩ := r
  exact ⟨y, rfl, r1⟩
theorem RVs.two {G : Nat → Addr} {x x' : VV} {vs : List V} (r : RVs K G w H [x, x'] vs) : ∃ y y', vs = [y, y'] ∧ RV K G w H x y ∧ RV K G w H x' y' := by
  simp only [RVs] at r
  obtain ⟨y, t, rfl, r1, y', t', rfl, r2, rfl⟩ := r
  exact ⟨y, y', rfl, r1, r2⟩
/-- len -/
def lenF : VF := fun xs h => match xs with
  | [.tup ys] => .ok (.int ys.length) h
  | [.lst ys] => .ok (.int ys.length) h
  | [.rol ys] => .ok (.int ys.length) h
  | [.ktu ys] => .ok (.int ys.length) h
  | [.str z] => if fits z.length then .ok (.int z.length) h else .bad
  | [.ref n] => (match h[n]? with | some (.lst ys) => .ok (.int ys.length) h | _ => .bad)
  | _ => .bad
theorem lenS : CallS K g (fun xs H Q => ∃ x n, xs = [x] ∧ LenV K x H n ∧ Q (.int n) H) lenF := by
  intro w h H σ W Q xs vs hk r p
  unfold lenF at p
  split at p
  · obtain ⟨y, rfl, r1⟩ := r.one
    obtain ⟨a, ys', rfl, ha, r2⟩ := r1.tup_get
    exact ⟨_, _, rfl, .inr ⟨ys', ha, rfl⟩, by rw [← r2.length]; exact post_int p hk⟩
  · obtain ⟨y, rfl, r1⟩ := r.one
    obtain ⟨a, ys', rfl, ha, r2⟩ := r1.lst_get
    exact ⟨_, _, rfl, .inl ⟨ys', SqL.of ha, rfl⟩, by rw [← r2.length]; exact post_int p hk⟩
  · obtain ⟨y, rfl, r1⟩ := r.one
    obtain ⟨a, ys', rfl, ha, r2⟩ := r1.rol_get
    exact ⟨_, _, rfl, .inl ⟨ys', ha, rfl⟩, by rw [← r2.length]; exact post_int p hk⟩
  · obtain ⟨y, rfl, r1⟩ := r.one
    obtain ⟨a, ys', rfl, ha, r2⟩ := r1.ktu_get
    exact ⟨_, _, rfl, .inr ⟨ys', ha, rfl⟩, by rw [← r2.length]; exact post_int p hk⟩
  · split at p
    · rename_i hf
      obtain ⟨y, rfl, r1⟩ := r.one
      rw [r1.str_eq]
      exact ⟨_, _, rfl, ⟨fits_le hf, rfl⟩, post_int p hk⟩
    · exact p.elim
  · split at p
    · rename_i ys e
      obtain ⟨y, rfl, r1⟩ := r.one
      obtain ⟨a, ys', rfl, _, ha, r2⟩ := ref_get hk r1 e
      exact ⟨_, _, rfl, .inl ⟨ys', SqL.of ha, rfl⟩, by rw [← r2.length]; exact post_int p hk⟩
    · exact p.elim
  · exact p.elim
/-- int, abs, max, min, gcd of ints -/
def intF : VF := fun xs h => match xs with
  | [.int i] => .ok (.int i) h
  | [.bl k] => .ok (.int (if k then 1 else 0)) h
  | _ => .bad
theorem intFS : CallS K g (fun xs H Q => (∃ i, xs = [.int i] ∧ Q (.int i) H) ∨ ∃ k, xs = [.bl k] ∧ Q (.int (if k then 1 else 0)) H) intF := by
  intro w h H σ W Q xs vs hk r p
  unfold intF at p
  split at p
  · obtain ⟨y, rfl, r1⟩ := r.one
    rw [r1.int_eq]
    exact .inl ⟨_, rfl, post_int p hk⟩
  · obtain ⟨y, rfl, r1⟩ := r.one
    rw [r1.bl_eq]
    exact .inr ⟨_, rfl, post_int p hk⟩
  · exact p.elim
def absF : VF := fun xs h => match xs with
  | [.int i] => .ok (.int (if i < 0 then -i else i)) h
  | _ => .bad
theorem absS : CallS K g (fun xs H Q => ∃ i, xs = [.int i] ∧ Q (.int (if i < 0 then -i else i)) H) absF := by
  intro w h H σ W Q xs vs hk r p
  unfold absF at p
  split at p
  · obtain ⟨y, rfl, r1⟩ := r.one
    rw [r1.int_eq]
    exact ⟨_, rfl, post_int p hk⟩
  · exact p.elim
def int2F (f : Int → Int → Int) : VF := fun xs h => match xs with
  | [.int i, .int j] => .ok (.int (f i j)) h
  | _ => .bad
theorem int2S {f : Int → Int → Int} : CallS K g (fun xs H Q => ∃ i j, xs = [.int i, .int j] ∧ Q (.int (f i j)) H) (int2F f) := by
  intro w h H σ W Q xs vs hk r p
  unfold int2F at p
  split at p
  · obtain ⟨y, y', rfl, r1, r2⟩ := r.two
    rw [r1.int_eq, r2.int_eq]
    exact ⟨_, _, rfl, post_int p hk⟩
  · exact p.elim
def maxF : VF := int2F fun i j => if j > i then j else i
def minF : VF := int2F fun i j => if j < i then j else i
def gcdF : VF := int2F fun i j => ((Nat.gcd i.natAbs j.natAbs : Nat) : Int)
/-- all, any of bools -/
def allBl : List VV → Option (List Bool)
  | [] => some []
  | .bl b :: r => (allBl r).map fun bs => b :: bs
  | _ => none
theorem allBl_ok : ∀ {xs : List VV} {bs : List Bool}, allBl xs = some bs → xs = bs.map VV.bl
  | [], bs, h => by simp only [allBl, Option.some.injEq] at h; subst h; rfl
  | .bl b :: r, bs, h => by
    simp only [allBl, Option.map_eq_some_iff] at h
    obtain ⟨cs, h1, rfl⟩ := h
    rw [allBl_ok h1]
    rfl
  | .non :: _, _, h => by simp only [allBl] at h; cases h
  | .int _ :: _, _, h => by simp only [allBl] at h; cases h
  | .str _ :: _, _, h => by simp only [allBl] at h; cases h
  | .ty _ :: _, _, h => by simp only [allBl] at h; cases h
  | .tup _ :: _, _, h => by simp only [allBl] at h; cases h
  | .lst _ :: _, _, h => by simp only [allBl] at h; cases h
  | .rol _ :: _, _, h => by simp only [allBl] at h; cases h
  | .dct _ _ :: _, _, h => by simp only [allBl] at h; cases h
  | .dtt _ _ :: _, _, h => by simp only [allBl] at h; cases h
  | .ktu _ :: _, _, h => by simp only [allBl] at h; cases h
  | .ins _ _ :: _, _, h => by simp only [allBl] at h; cases h
  | .ref _ :: _, _, h => by simp only [allBl] at h; cases h
  | .adr _ :: _, _, h => by simp only [allBl] at h; cases h
def allIt : List VV → Option (List Int)
  | [] => some []
  | .int b :: r => (allIt r).map fun bs => b :: bs
  | _ => none
theorem allIt_ok : ∀ {xs : List VV} {bs : List Int}, allIt xs = some bs → xs = bs.map VV.int
  | [], bs, h => by simp only [allIt, Option.some.injEq] at h; subst h; rfl
  | .int b :: r, bs, h => by
    simp only [allIt, Option.map_eq_some_iff] at h
    obtain ⟨cs, h1, rfl⟩ := h
    rw [allIt_ok h1]
    rfl
  | .non :: _, _, h => by simp only [allIt] at h; cases h
  | .bl _ :: _, _, h => by simp only [allIt] at h; cases h
  | .str _ :: _, _, h => by simp only [allIt] at h; cases h
  | .ty _ :: _, _, h => by simp only [allIt] at h; cases h
  | .tup _ :: _, _, h => by simp only [allIt] at h; cases h
  | .lst _ :: _, _, h => by simp only [allIt] at h; cases h
  | .rol _ :: _, _, h => by simp only [allIt] at h; cases h
  | .dct _ _ :: _, _, h => by simp only [allIt] at h; cases h
  | .dtt _ _ :: _, _, h => by simp only [allIt] at h; cases h
  | .ktu _ :: _, _, h => by simp only [allIt] at h; cases h
  | .ins _ _ :: _, _, h => by simp only [allIt] at h; cases h
  | .ref _ :: _, _, h => by simp only [allIt] at h; cases h
  | .adr _ :: _, _, h => by simp only [allIt] at h; cases h
def allF : VF := fun xs h => match xs with
  | [.lst ys] => (match allBl ys with | some bs => .ok (.bl (bs.all id)) h | none => .bad)
  | _ => .bad
def anyF : VF := fun xs h => match xs with
  | [.lst ys] => (match allBl ys with | some bs => .ok (.bl (bs.any id)) h | none => .bad)
  | _ => .bad
def sumF : VF := fun xs h => match xs with
  | [.lst ys] => (match allIt ys with | some bs => .ok (.int bs.sum) h | none => .bad)
  | _ => .bad
theorem allS : CallS K g (rAll K) allF := by
  intro w h H σ W Q xs vs hk r p
  unfold allF at p
  split at p
  · split at p
    · rename_i bs e
      obtain ⟨y, rfl, r1⟩ := r.one
      obtain ⟨a, ys', rfl, ha, r2⟩ := r1.lst_get
      rw [allBl_ok e] at r2
      rw [r2.bls] at ha
      exact ⟨a, bs, rfl, SqL.of ha, post_bl p hk⟩
    · exact p.elim
  · exact p.elim
theorem anyS : CallS K g (rAny K) anyF := by
  intro w h H σ W Q xs vs hk r p
  unfold anyF at p
  split at p
  · split at p
    · rename_i bs e
      obtain ⟨y, rfl, r1⟩ := r.one
      obtain ⟨a, ys', rfl, ha, r2⟩ := r1.lst_get
      rw [allBl_ok e] at r2
      rw [r2.bls] at ha
      exact ⟨a, bs, rfl, SqL.of ha, post_bl p hk⟩
    · exact p.elim
  · exact p.elim
theorem sumS : CallS K g (rSum K) sumF := by
  intro w h H σ W Q xs vs hk r p
  unfold sumF at p
  split at p
  · split at p
    · rename_i bs e
      obtain ⟨y, rfl, r1⟩ := r.one
      obtain ⟨a, ys', rfl, ha, r2⟩ := r1.lst_get
      rw [allIt_ok e] at r2
      rw [r2.ints] at ha
      exact ⟨a, bs, rfl, SqL.of ha, post_int p hk⟩
    · exact p.elim
  · exact p.elim
/-- list(..), tuple(..) of a list, a tuple -/
def listF : VF := fun xs h => match xs with
  | [.tup ys] => .ok (.lst ys) h
  | [.lst ys] => .ok (.lst ys) h
  | [.rol ys] => .ok (.lst ys) h
  | [.ktu ys] => .ok (.lst ys) h
  | _ => .bad
theorem listS : CallS K g (fun xs H Q => ∃ p ys, xs = [.ref p] ∧ (SqL K H p ys ∨ SqT K H p ys) ∧ ∀ l, H l = none → Q (.ref l) (upd H l (.lst ys))) listF := by
  intro w h H σ W Q xs vs hk r p
  unfold listF at p
  split at p
  · obtain ⟨y, rfl, r1⟩ := r.one
    obtain ⟨a, ys', rfl, ha, r2⟩ := r1.tup_get
    exact ⟨a, ys', rfl, .inr ha, fun q hq => post_newl p hk r2 hq⟩
  · obtain ⟨y, rfl, r1⟩ := r.one
    obtain ⟨a, ys', rfl, ha, r2⟩ := r1.lst_get
    exact ⟨a, ys', rfl, .inl (SqL.of ha), fun q hq => post_newl p hk r2 hq⟩
  · obtain ⟨y, rfl, r1⟩ := r.one
    obtain ⟨a, ys', rfl, ha, r2⟩ := r1.rol_get
    exact ⟨a, ys', rfl, .inl ha, fun q hq => post_newl p hk r2 hq⟩
  · obtain ⟨y, rfl, r1⟩ := r.one
    obtain ⟨a, ys', rfl, ha, r2⟩ := r1.ktu_get
    exact ⟨a, ys', rfl, .inr ha, fun q hq => post_newl p hk r2 hq⟩
  · exact p.elim
def tupleF : VF := fun xs h => match xs with
  | [.tup ys] => .ok (.tup ys) h
  | [.lst ys] => .ok (.tup ys) h
  | [.rol ys] => .ok (.tup ys) h
  | [.ktu ys] => .ok (.ktu ys) h
  | _ => .bad
theorem tupleS : CallS K g (fun xs H Q => ∃ p ys, xs = [.ref p] ∧ ((SqL K H p ys ∧ ∀ l, H l = none → Q (.ref l) (upd H l (.tup ys))) ∨ (SqT K H p ys ∧ Q (.ref p) H))) tupleF := by
  intro w h H σ W Q xs vs hk r p
  unfold tupleF at p
  split at p
  · obtain ⟨y, rfl, r1⟩ := r.one
    have r0 := r1
    obtain ⟨a, ys', rfl, ha, r2⟩ := r1.tup_get
    exact ⟨a, ys', rfl, .inr ⟨ha, Post.here p hk r0⟩⟩
  · obtain ⟨y, rfl, r1⟩ := r.one
    obtain ⟨a, ys', rfl, ha, r2⟩ := r1.lst_get
    exact ⟨a, ys', rfl, .inl ⟨SqL.of ha, fun q hq => post_newt p hk r2 hq⟩⟩
  · obtain ⟨y, rfl, r1⟩ := r.one
    obtain ⟨a, ys', rfl, ha, r2⟩ := r1.rol_get
    exact ⟨a, ys', rfl, .inl ⟨ha, fun q hq => post_newt p hk r2 hq⟩⟩
  · obtain ⟨y, rfl, r1⟩ := r.one
    have r0 := r1
    obtain ⟨a, ys', rfl, ha, r2⟩ := r1.ktu_get
    exact ⟨a, ys', rfl, .inr ⟨ha, Post.here p hk r0⟩⟩
  · exact p.elim
/-- the class of a value, dicts that are locked and instances with slots besides -/
inductive TyY (K : PySem.W.Frag) (H : Hp) : V → Value → Prop where
  | base {x : V} {t : Value} (h : TyX K H x t) : TyY K H x t
  | fDictT {a : Addr} {o : Obj} {kvs : List (List Key × V)} (e : H a = some (.frz o (.dT kvs))) : TyY K H (.ref a) (.type "dict")
  | bd {a : Addr} {ob : Obj} {vs : List V} (e : H a = some (.frz ob (.ext fun _ => True))) (b : BdP ob vs) : TyY K H (.ref a) (.type "dict")
  | sl {a C dx : Addr} {vs : List (Option V)} (h : SlX.Slt H a C dx vs) (c : SlX.SCls K C) (i : SlX.SIsi K C) : TyY K H (.ref a) (.ref C)
def rIsiY (K : PySem.W.Frag) : List V → Hp → VK → Prop := fun xs H Q => ∃ (x c : V) (t u : Value) (b : Bool), xs = [x, c] ∧ ClsV c u ∧ TyY K H x t ∧ PySem.W.kitOne K t u = some b ∧ Q (.bl b) H
theorem kit_ofY {X : Cx} {pins : List (Addr × Obj)} {σ : L2.St} {H : Hp} {s : Shared} {x : V} {u t : Value} (I : Inv X pins σ H s) (rx : RelV x u) (ty : TyY X.K H x t) : ∃ P : Heap → Prop, PySem.W.KitX X.K u t P ∧ P s.heap ∧ u ≠ .builtin "__main__.__loader__#opaque" := by
  cases ty with
  | base b => exact kit_of I rx b
  | @fDictT a ob kvs ea =>
    cases (show u = Value.ref a from rx)
    obtain ⟨_, _, _, vs, _, o, es, ep, h1, h2, _⟩ := (show ObjOk X.prog X.w H s.heap a (.frz ob (.dT kvs)) from I.hok a _ ea)
    exact ⟨_, PySem.W.kitx_dict, ⟨o, h1, h2.1⟩, fun z => nomatch z⟩
  | @bd a ob vs ea hb =>
    cases (show u = Value.ref a from rx)
    obtain ⟨h1, _⟩ := (show ObjOk X.prog X.w H s.heap a (.frz ob (.ext fun _ => True)) from I.hok a _ ea)
    exact ⟨_, PySem.W.kitx_dict, ⟨ob, h1, hb.1.1⟩, fun z => nomatch z⟩
  | @sl a C dx vs hsl hc hi =>
    cases (show u = Value.ref a from rx)
    obtain ⟨sl, od, _, J, _⟩ := SlX.slt_inst I hsl
    exact ⟨_, OwX.kitx_slt hc.ic (hc.get _) hi.ca hi.cn hi.ct hi.cm, J, fun z => nomatch z⟩
theorem call_isiY {X : Cx} : CallR X (.builtin "isinstance") (rIsiY X.K) := by
  intro pins s σ H xs us Q I r h
  obtain ⟨x, c, t, u, b, rfl, k, ty, e, q⟩ := h
  obtain ⟨u1, u2, rfl, r1, r2⟩ := r.two
  have e2 := k.eq r2
  subst e2
  obtain ⟨P, Z, p, hx⟩ := kit_ofY I r1 ty
  exact PySem.W.kia_one Z I.kIn p e hx fun tk => ⟨.bl b, H, I.tok tk, rfl, q⟩
/-- isinstance with a built-in class -/
def tyOf (h : VH) : VV → Option BTy
  | .non => some .none
  | .bl _ => some .bool
  | .int _ => some .int
  | .str _ => some .str
  | .tup _ => some .tuple
  | .lst _ => some .list
  | .dct _ _ => some .dict
  | .dtt _ _ => some .dict
  | .ktu _ => some .tuple
  | .ins 0 _ => some .dict
  | .ref n => (match h[n]? with | some (.lst _) => some .list | some (.dtt _ _) => some .dict | some (.dct _ _) => some .dict | _ => none)
  | _ => none
def subTy : BTy → BTy → Bool
  | .bool, .bool => true | .bool, .int => true | .int, .int => true | .str, .str => true | .tuple, .tuple => true | .list, .list => true | .dict, .dict => true | .set, .set => true | .none, .none => true
  | _, _ => false
theorem kit_sub {K : PySem.W.Frag} (a b : BTy) : PySem.W.kitOne K (.type a.name) (.type b.name) = some (subTy a b) := by
  cases a <;> cases b <;> exact kit_ty (by decide +kernel)
theorem tyOf_ok {x : VV} {t : BTy} {y : V} (hk : Hk K g.adr w h H) (r : RV K g.adr w H x y) (e : tyOf h x = some t) : TyY K H y (.type t.name) := by
  cases x with
  | non => simp only [tyOf, Option.some.injEq] at e; simp only [RV] at r; subst e r; exact .base (.base .non)
  | bl b => simp only [tyOf, Option.some.injEq] at e; simp only [RV] at r; subst e r; exact .base (.base (.bl b))
  | int b => simp only [tyOf, Option.some.injEq] at e; simp only [RV] at r; subst e r; exact .base (.base (.int b))
  | str b => simp only [tyOf, Option.some.injEq] at e; simp only [RV] at r; subst e r; exact .base (.base (.str b))
  | tup xs =>
    simp only [tyOf, Option.some.injEq] at e
    simp only [RV] at r
    obtain ⟨a, ys, rfl, h1, _⟩ := r
    subst e
    exact .base (.base (.tup h1.1))
  | lst xs =>
    simp only [tyOf, Option.some.injEq] at e
    obtain ⟨a, ys, rfl, h1, _⟩ := r.lst_get
    subst e
    exact .base (.base (.lst h1))
  | dct ks vs =>
    simp only [tyOf, Option.some.injEq] at e
    simp only [RV] at r
    obtain ⟨a, kvs, rfl, ⟨o, h1, _⟩, _⟩ := r
    subst e
    exact .base (.fDict h1)
  | dtt ks vs =>
    simp only [tyOf, Option.some.injEq] at e
    simp only [RV] at r
    obtain ⟨a, kvs, rfl, ⟨o, h1, _⟩, _⟩ := r
    subst e
    exact .fDictT h1
  | ktu xs =>
    simp only [tyOf, Option.some.injEq] at e
    simp only [RV] at r
    obtain ⟨a, ys, rfl, ⟨o, its, n, h1, h2, _⟩ | ⟨o, h1, _⟩, _⟩ := r
    · subst e
      exact .base (.kTuple h1 h2)
    · subst e
      exact .base (.fTuple h1)
  | ins c fs =>
    cases c with
    | zero =>
      simp only [tyOf, Option.some.injEq] at e
      simp only [RV] at r
      obtain ⟨a, vs, rfl, ⟨ob, h1, h2, _⟩, _⟩ := r
      subst e
      exact .bd h1 h2.2
    | succ n => simp only [tyOf] at e; cases e
  | ref n =>
    simp only [tyOf] at e
    split at e
    · rename_i xs e1
      simp only [Option.some.injEq] at e
      subst e
      obtain ⟨a, ys, rfl, _, h2, _⟩ := ref_get hk r e1
      exact .base (.base (.lst h2))
    · rename_i ks vs e1
      simp only [Option.some.injEq] at e
      subst e
      obtain ⟨a, rfl, _, kvs, h2, _⟩ := ref_obj hk r e1 (fun z => nomatch z)
      exact .base (.base (.dT h2))
    · rename_i ks vs e1
      simp only [Option.some.injEq] at e
      subst e
      obtain ⟨a, rfl, _, kvs, h2, _⟩ := ref_obj hk r e1 (fun z => nomatch z)
      exact .base (.base (.dK h2))
    · cases e
  | _ => simp only [tyOf] at e; cases e
def isiF : VF := fun xs h => match xs with
  | [x, .ty t] => (match tyOf h x with | some u => .ok (.bl (subTy u t)) h | none => .bad)
  | _ => .bad
theorem isiS : CallS K g (rIsiY K) isiF := by
  intro w h H σ W Q xs vs hk r p
  unfold isiF at p
  split at p
  · split at p
    · rename_i u e
      obtain ⟨y, y', rfl, r1, r2⟩ := r.two
      simp only [RV] at r2
      subst r2
      exact ⟨y, _, _, _, _, rfl, .ty _, tyOf_ok hk r1 e, kit_sub _ _, post_bl p hk⟩
    · exact p.elim
  · exact p.elim
/-- sorted of ints -/
def insI (x : Int) : List Int → List Int
  | [] => [x]
  | y :: r => if x ≤ y then x :: y :: r else y :: insI x r
def sortI : List Int → List Int
  | [] => []
  | x :: r => insI x (sortI r)
theorem insI_perm (x : Int) : ∀ l : List Int, (insI x l).Perm (x :: l)
  | [] => List.Perm.refl _
  | y :: r => by
    unfold insI
    split
    · exact List.Perm.refl _
    · exact ((insI_perm x r).cons y).trans (List.Perm.swap x y r)
theorem sortI_perm : ∀ l : List Int, (sortI l).Perm l
  | [] => List.Perm.refl _
  | x :: r => (insI_perm x _).trans ((sortI_perm r).cons x)
theorem insI_sorted (x : Int) : ∀ l : List Int, l.Pairwise (· ≤ ·) → (insI x l).Pairwise (· ≤ ·)
  | [], _ => List.pairwise_singleton _ _
  | y :: r, h => by
    unfold insI
    obtain ⟨h1, h2⟩ := List.pairwise_cons.mp h
    split
    · rename_i c
      refine List.pairwise_cons.mpr ⟨fun z hz => ?_, h⟩
      rcases List.mem_cons.mp hz with e | hz
      · rw [e]; exact c
      · exact Int.le_trans c (h1 z hz)
    · rename_i c
      refine List.pairwise_cons.mpr ⟨fun z hz => ?_, insI_sorted x r h2⟩
      rcases List.mem_cons.mp ((insI_perm x r).mem_iff.mp hz) with e | hz
      · rw [e]; omega
      · exact h1 z hz
theorem sortI_sorted : ∀ l : List Int, (sortI l).Pairwise (· ≤ ·)
  | [] => List.Pairwise.nil
  | x :: r => insI_sorted x _ (sortI_sorted r)
theorem sorted_unique : ∀ {l m : List Int}, l.Perm m → l.Pairwise (· ≤ ·) → m.Pairwise (· ≤ ·) → l = m
  | [], m, p, _, _ => by
    have := p.length_eq
    exact (List.length_eq_zero_iff.mp this.symm).symm
  | x :: l, m, p, h1, h2 => by
    cases m with
    | nil =>
      have := p.length_eq
      simp at this
    | cons y m =>
      obtain ⟨a1, a2⟩ := List.pairwise_cons.mp h1
      obtain ⟨b1, b2⟩ := List.pairwise_cons.mp h2
      have e : x = y := by
        have hx : x ∈ y :: m := p.mem_iff.mp List.mem_cons_self
        have hy : y ∈ x :: l := p.mem_iff.mpr List.mem_cons_self
        have c1 : y ≤ x := by
          rcases List.mem_cons.mp hx with e | hx
          · omega
          · exact b1 x hx
        have c2 : x ≤ y := by
          rcases List.mem_cons.mp hy with e | hy
          · omega
          · exact a1 y hy
        omega
      subst e
      rw [sorted_unique (List.perm_cons x |>.mp p) a2 b2]
def sortedF : VF := fun xs h => match xs with
  | [.lst ys] => (match allIt ys with | some ns => .ok (.lst ((sortI ns).map VV.int)) h | none => .bad)
  | _ => .bad
theorem sortedS : CallS K g (rSortedI K) sortedF := by
  intro w h H σ W Q xs vs hk r p
  unfold sortedF at p
  split at p
  · split at p
    · rename_i ns e
      obtain ⟨y, rfl, r1⟩ := r.one
      obtain ⟨a, ys', rfl, ha, r2⟩ := r1.lst_get
      rw [allIt_ok e] at r2
      rw [r2.ints] at ha
      refine ⟨a, ns, rfl, SqL.of ha, fun ns' q hp hs hq => ?_⟩
      have e2 : ns' = sortI ns := sorted_unique (hp.trans (sortI_perm ns).symm) hs (sortI_sorted ns)
      rw [e2]
      exact post_newl p hk (RVs.of_ints _) hq
    · exact p.elim
  · exact p.elim
end
end Mv
set_option Elab.async false
set_option linter.all false
set_option maxRecDepth 100000
/-! Mv, part E: what is walked, targets, list comprehensions. -/
namespace Mv
open PySem PySem.Spec PyProof.Rows L2

/-! ### what is walked -/
/-- the items that J yields, seen from (w, H) on -/
structure ItOk (K : PySem.W.Frag) (g : Gx) (w : Wd) (H : Hp) (items : List VV) (J : It) : Prop where
  step : ∀ (w1 : Wd) (h1 : VH) (H1 : Hp) (i : Nat) (v : VV), Sees w H w1 H1 → Hk K g.adr w1 h1 H1 → items[i]? = some v → J.go i H1 ∧ ∀ x H2, J.yld i H1 x H2 → Ext w1 H1 w1 H2 ∧ Hk K g.adr w1 h1 H2 ∧ RV K g.adr w1 H2 v x
  stop : ∀ (w1 : Wd) (H1 : Hp), Sees w H w1 H1 → J.stop items.length H1
def relI (K : PySem.W.Frag) (g : Gx) : Rel (List VV) It := fun w H items J => ItOk K g w H items J
abbrev MI := Sv → VH → Out (List VV)
abbrev RI (X : Cx) (g : Gx) (W : WX) (tg iter : Expr) (m : MI) : Prop := PI X tg iter (tG X.K g (relI X.K g) m W)
theorem pi_imp {X : Cx} {tg iter : Expr} {t t' : TI} (h : PI X tg iter t) (i : ∀ σ H R, t' σ H R → t σ H R) : PI X tg iter t' := ⟨fun pins s σ H R I q => h.run pins s σ H R I (i σ H R q)⟩
theorem Sees.refl (w : Wd) (H : Hp) : Sees w H w H := ⟨fun _ _ h m => ⟨h, m⟩, fun _ _ _ h => h, Nat.le_refl _⟩
theorem Sees.trans {w w1 w2 : Wd} {H H1 H2 : Hp} (a : Sees w H w1 H1) (b : Sees w1 H1 w2 H2) : Sees w H w2 H2 where
  keep := fun c o h m => let ⟨h1, m1⟩ := a.keep c o h m; b.keep c o h1 m1
  refs := fun n c hn h => a.refs n c hn (b.refs n c (Nat.lt_of_lt_of_le hn a.len) h)
  len := Nat.le_trans a.len b.len
theorem ItOk.mono {K : PySem.W.Frag} {g : Gx} {w w' : Wd} {H H' : Hp} {items : List VV} {J : It} (h : ItOk K g w H items J) (e : Sees w H w' H') : ItOk K g w' H' items J :=
  ⟨fun w1 h1 H1 i v s k q => h.step w1 h1 H1 i v (e.trans s) k q, fun w1 H1 s => h.stop w1 H1 (e.trans s)⟩
/-- a list that stands still, by its address -/
theorem itl_ok {K : PySem.W.Frag} {g : Gx} {w : Wd} {H : Hp} {xs : List VV} {a : Addr} {ys : List V} (st : ∀ w1 H1, Sees w H w1 H1 → SqL K H1 a ys) (r : RVs K g.adr w H xs ys) : ItOk K g w H xs (Itl K a) where
  step := fun w1 h1 H1 i v s k q => by
    obtain ⟨z, e1, r1⟩ := r.get i v q
    refine ⟨⟨ys, z, st w1 H1 s, e1⟩, fun x H2 hy => ?_⟩
    obtain ⟨e2, hx⟩ := hy
    subst e2
    have := hx ys (st w1 _ s)
    rw [e1] at this
    cases this
    exact ⟨Ext.refl _ _, k, RV.mono s _ _ r1⟩
  stop := fun w1 H1 s => ⟨ys, st w1 H1 s, by rw [r.length]; exact Nat.le_refl _⟩
theorem itt_ok {K : PySem.W.Frag} {g : Gx} {w : Wd} {H : Hp} {xs : List VV} {a : Addr} {ys : List V} (st : ∀ w1 H1, Sees w H w1 H1 → SqT K H1 a ys) (r : RVs K g.adr w H xs ys) : ItOk K g w H xs (Itt K a) where
  step := fun w1 h1 H1 i v s k q => by
    obtain ⟨z, e1, r1⟩ := r.get i v q
    refine ⟨⟨ys, z, st w1 H1 s, e1⟩, fun x H2 hy => ?_⟩
    obtain ⟨e2, hx⟩ := hy
    subst e2
    have := hx ys (st w1 _ s)
    rw [e1] at this
    cases this
    exact ⟨Ext.refl _ _, k, RV.mono s _ _ r1⟩
  stop := fun w1 H1 s => ⟨ys, st w1 H1 s, by rw [r.length]; exact Nat.le_refl _⟩
theorem RV.tup_st {K : PySem.W.Frag} {G : Nat → Addr} {w : Wd} {H : Hp} {xs : List VV} {y : V} (r : RV K G w H (.tup xs) y) : ∃ a ys, y = .ref a ∧ RVs K G w H xs ys ∧ ∀ w1 H1, Sees w H w1 H1 → SqT K H1 a ys := by
  simp only [RV] at r
  obtain ⟨a, ys, e, h, r⟩ := r
  exact ⟨a, ys, e, r, fun w1 H1 s => .inl (.inl (s.keep a _ h.1 h.2).1)⟩
theorem RV.ktu_st {K : PySem.W.Frag} {G : Nat → Addr} {w : Wd} {H : Hp} {xs : List VV} {y : V} (r : RV K G w H (.ktu xs) y) : ∃ a ys, y = .ref a ∧ RVs K G w H xs ys ∧ ∀ w1 H1, Sees w H w1 H1 → SqT K H1 a ys := by
  simp only [RV] at r
  obtain ⟨a, ys, e, h, r⟩ := r
  exact ⟨a, ys, e, r, fun w1 H1 s => h.elim KTup.sq (fun ⟨o, q, _, m⟩ => .inl (.inr ⟨o, (s.keep a _ q m).1⟩))⟩
theorem RV.lst_st {K : PySem.W.Frag} {G : Nat → Addr} {w : Wd} {H : Hp} {xs : List VV} {y : V} (r : RV K G w H (.lst xs) y) : ∃ a ys, y = .ref a ∧ RVs K G w H xs ys ∧ ∀ w1 H1, Sees w H w1 H1 → SqL K H1 a ys := by
  simp only [RV] at r
  obtain ⟨a, ys, e, h, r⟩ := r
  exact ⟨a, ys, e, r, fun w1 H1 s => .inl (.inl (s.keep a _ h.1 h.2).1)⟩
theorem RV.rol_st {K : PySem.W.Frag} {G : Nat → Addr} {w : Wd} {H : Hp} {xs : List VV} {y : V} (r : RV K G w H (.rol xs) y) : ∃ a ys, y = .ref a ∧ RVs K G w H xs ys ∧ ∀ w1 H1, Sees w H w1 H1 → SqL K H1 a ys := by
  simp only [RV] at r
  obtain ⟨a, ys, e, h, r⟩ := r
  refine ⟨a, ys, e, r, fun w1 H1 s => ?_⟩
  rcases h with ⟨o, h⟩ | h
  · exact .inl (.inr ⟨o, (s.keep a _ h.1 h.2).1⟩)
  · exact .inr h
section
variable {X : Cx} {tg : Expr}
/-- a list or a tuple, whichever comes -/
theorem pi_seq {l : Expr} {tl : TE} (hl : PE X l tl) : PI X tg l (fun σ H R => tl σ H fun x H1 => ∃ a, x = .ref a ∧ (((∃ xs, SqL X.K H1 a xs) ∧ R (Itl X.K a) H1) ∨ ((∃ xs, SqT X.K H1 a xs) ∧ R (Itt X.K a) H1))) := by
  refine ⟨fun pins s σ H R I h => ?_⟩
  refine thn (hl.run pins s σ H _ I h) fun v s1 ⟨x, H1, I1, r1, a, e, q1⟩ => ?_
  subst e
  cases r1
  rcases q1 with ⟨⟨xs, hq⟩, q⟩ | ⟨⟨xs, hq⟩, q⟩
  · obtain ⟨its, rv, p, hz⟩ := I1.list hq
    refine wpAny_pyIter_list p.isList ?_
    refine ⟨s1.heap.objs.size, [s1.heap.objs.size], _, _, H1, rfl, I1.kept (t' := s1.toks) fun b o e => Heap.get?_push_of_some _ e, turn_list a _, ⟨_, Heap.get?_push_size _ rfl, rfl, rfl⟩, fun b hb => ?_, q⟩
    have e : b = s1.heap.objs.size := by simpa using hb
    subst e
    exact I1.fpOk (Nat.le_refl _) (I1.hok.fresh (Nat.le_refl _))
  · obtain ⟨its, rv, p, hz⟩ := I1.tuple hq
    refine wpAny_pyIter_tuple (show s1.heap.IsTuple a its.toArray from p) ?_
    refine ⟨s1.heap.objs.size, [s1.heap.objs.size], _, _, H1, rfl, I1.kept (t' := s1.toks) fun b o e => Heap.get?_push_of_some _ e, turn_tuple a _, ⟨_, Heap.get?_push_size _ rfl, rfl, rfl⟩, fun b hb => ?_, q⟩
    have e : b = s1.heap.objs.size := by simpa using hb
    subst e
    exact I1.fpOk (Nat.le_refl _) (I1.hok.fresh (Nat.le_refl _))
variable {g : Gx} {W : WX} {e e2 : Expr} {m : ME} {ma : MA} {pos p : Pos}
def seqI (a : ME) : MI := fun sv h => (a sv h).bind fun x h1 => match x with
  | .tup ys => .ok ys h1
  | .lst ys => .ok ys h1
  | .rol ys => .ok ys h1
  | _ => .bad
theorem ri_seq (ha : RE X g W e m) : RI X g W tg e (seqI m) := pi_imp (pi_seq ha) fun σ H R ⟨w, sv, h, rs, hk, p⟩ => by
  refine seqG' rs hk p fun w1 H1 h1 v y e1 rs1 k1 r1 p1 => ?_
  split at p1
  · obtain ⟨a, ys, rfl, r2, st⟩ := RV.tup_st r1
    exact ⟨a, rfl, .inr ⟨⟨ys, st w1 H1 (Sees.refl _ _)⟩, Post.here p1 k1 (itt_ok st r2)⟩⟩
  · obtain ⟨a, ys, rfl, r2, st⟩ := RV.lst_st r1
    exact ⟨a, rfl, .inl ⟨⟨ys, st w1 H1 (Sees.refl _ _)⟩, Post.here p1 k1 (itl_ok st r2)⟩⟩
  · obtain ⟨a, ys, rfl, r2, st⟩ := RV.rol_st r1
    exact ⟨a, rfl, .inl ⟨⟨ys, st w1 H1 (Sees.refl _ _)⟩, Post.here p1 k1 (itl_ok st r2)⟩⟩
  · exact p1.elim
/-- range -/
def iota (lo : Int) : Nat → List VV
  | 0 => []
  | n + 1 => .int lo :: iota (lo + 1) n
theorem iota_length (lo : Int) : ∀ n, (iota lo n).length = n
  | 0 => rfl
  | n + 1 => by simp [iota, iota_length]
theorem iota_get : ∀ (n i : Nat) (lo : Int) (v : VV), (iota lo n)[i]? = some v → i < n ∧ v = .int (lo + i)
  | 0, i, lo, v, h => by simp [iota] at h
  | n + 1, 0, lo, v, h => by simp [iota] at h; subst h; simp
  | n + 1, i + 1, lo, v, h => by
    obtain ⟨h1, h2⟩ := iota_get n i (lo + 1) v (by simpa [iota] using h)
    refine ⟨by omega, ?_⟩
    rw [h2]
    congr 1
    omega
theorem itr_ok {K : PySem.W.Frag} {w : Wd} {H : Hp} (lo : Int) (n : Nat) : ItOk K g w H (iota lo n) (Itr lo n) where
  step := fun w1 h1 H1 i v s k q => by
    obtain ⟨h2, e⟩ := iota_get n i lo v q
    refine ⟨h2, fun x H2 hy => ?_⟩
    obtain ⟨e2, hx⟩ := hy
    subst e2 e hx
    exact ⟨Ext.refl _ _, k, by simp only [RV]⟩
  stop := fun w1 H1 s => by rw [iota_length]; exact Nat.le_refl n
def rangeI (a : MA) : MI := fun sv h => (a sv h).bind fun xs h1 => match xs with
  | [.int j] => if decide (j < 4611686018427387904) && decide (-4611686018427387904 ≤ j) then .ok (iota 0 j.toNat) h1 else .bad
  | _ => .bad
def range2I (a : MA) : MI := fun sv h => (a sv h).bind fun xs h1 => match xs with
  | [.int i, .int j] => if (decide (j < 4611686018427387904) && decide (-4611686018427387904 ≤ j)) && (decide (i < 4611686018427387904) && decide (-4611686018427387904 ≤ i)) then .ok (iota i (j - i).toNat) h1 else .bad
  | _ => .bad
theorem ri_range (hg : Gl X "range") (hm : X.mg "range" = none) (ha : RA X g W [e] ma) (hs : starEach [e] X.env = [(false, eval e X.env)] := by rfl) : RI X g W tg (.Call (.Name "range" p) [e] [] pos) (rangeI ma) :=
  pi_imp (pi_range1 hg hm ha hs) fun σ H R ⟨w, sv, h, rs, hk, p⟩ => by
    refine seqG' rs hk p fun w1 H1 h1 v y e1 rs1 k1 r1 p1 => ?_
    split at p1
    · split at p1
      · rename_i j hc
        simp only [Bool.and_eq_true, decide_eq_true_eq] at hc
        obtain ⟨z, rfl, r2⟩ := RVs.one r1
        exact ⟨j, by rw [r2.int_eq], by omega, by omega, Post.here p1 k1 (itr_ok 0 _)⟩
      · exact p1.elim
    · exact p1.elim
theorem ri_range2 (hg : Gl X "range") (hm : X.mg "range" = none) (ha : RA X g W [e, e2] ma) (hs : starEach [e, e2] X.env = [(false, eval e X.env), (false, eval e2 X.env)] := by rfl) (hs2 : starEach [e2] X.env = [(false, eval e2 X.env)] := by rfl) :
    RI X g W tg (.Call (.Name "range" p) [e, e2] [] pos) (range2I ma) :=
  pi_imp (pi_range2 hg hm ha hs hs2) fun σ H R ⟨w, sv, h, rs, hk, p⟩ => by
    refine seqG' rs hk p fun w1 H1 h1 v y e1 rs1 k1 r1 p1 => ?_
    split at p1
    · split at p1
      · rename_i i j hc
        simp only [Bool.and_eq_true, decide_eq_true_eq] at hc
        obtain ⟨z, z', rfl, r2, r3⟩ := RVs.two r1
        exact ⟨i, j, by rw [r2.int_eq, r3.int_eq], ⟨by omega, by omega, by omega, by omega⟩, Post.here p1 k1 (itr_ok i _)⟩
      · exact p1.elim
    · exact p1.elim
/-- zip of two lists, of two tuples -/
def zipV : List VV → List VV → List VV
  | x :: xs, y :: ys => .tup [x, y] :: zipV xs ys
  | _, _ => []
theorem zipV_get : ∀ (xs ys : List VV) (i : Nat) (v : VV), (zipV xs ys)[i]? = some v → ∃ x y, xs[i]? = some x ∧ ys[i]? = some y ∧ v = .tup [x, y]
  | [], ys, i, v, h => by simp [zipV] at h
  | x :: xs, [], i, v, h => by simp [zipV] at h
  | x :: xs, y :: ys, 0, v, h => by simp [zipV] at h; exact ⟨x, y, rfl, rfl, h.symm⟩
  | x :: xs, y :: ys, i + 1, v, h => by simpa using zipV_get xs ys i v (by simpa [zipV] using h)
theorem zipV_length : ∀ (xs ys : List VV), (zipV xs ys).length = min xs.length ys.length
  | [], ys => by simp [zipV]
  | x :: xs, [] => by simp [zipV]
  | x :: xs, y :: ys => by
    rw [zipV, List.length_cons, zipV_length xs ys, List.length_cons, List.length_cons]
    omega
/-- the pairs of two walks of one kind -/
theorem zip_step {K : PySem.W.Frag} {w1 : Wd} {h1 : VH} {H1 H2 : Hp} {x y : VV} {a b : V} {T : Addr} (k : Hk K g.adr w1 h1 H1) (hT : H1 T = none) (e : H2 = upd H1 T (.tup [a, b])) (r1 : RV K g.adr w1 H1 x a) (r2 : RV K g.adr w1 H1 y b) :
    Ext w1 H1 w1 H2 ∧ Hk K g.adr w1 h1 H2 ∧ RV K g.adr w1 H2 (.tup [x, y]) (.ref T) := by
  subst e
  refine ⟨Ext.grow k hT, Hk.grow k hT, RV.tup_of upd_same (k.fresh hT) ?_⟩
  simp only [RVs]
  exact ⟨a, [b], rfl, RV.mono (Ext.grow k hT).sees _ _ r1, b, [], rfl, RV.mono (Ext.grow k hT).sees _ _ r2, rfl⟩
theorem itz_ok {K : PySem.W.Frag} {w : Wd} {H : Hp} {xs xs' : List VV} {a b : Addr} {ys ys' : List V} (st : ∀ w1 H1, Sees w H w1 H1 → SqL K H1 a ys) (r : RVs K g.adr w H xs ys) (st' : ∀ w1 H1, Sees w H w1 H1 → SqL K H1 b ys') (r' : RVs K g.adr w H xs' ys') :
    ItOk K g w H (zipV xs xs') (Itz K a b) where
  step := fun w1 h1 H1 i v s k q => by
    obtain ⟨x, x', q1, q2, rfl⟩ := zipV_get _ _ _ _ q
    obtain ⟨z, e1, r1⟩ := r.get i x q1
    obtain ⟨z', e2, r2⟩ := r'.get i x' q2
    refine ⟨⟨ys, ys', z, z', st w1 H1 s, st' w1 H1 s, e1, e2⟩, fun v H2 hy => ?_⟩
    obtain ⟨T, u, u', ev, hT, eH, h3, h4⟩ := hy
    have f1 := h3 ys (st w1 H1 s)
    have f2 := h4 ys' (st' w1 H1 s)
    rw [e1] at f1
    rw [e2] at f2
    cases f1
    cases f2
    rw [ev]
    exact zip_step k hT eH (RV.mono s _ _ r1) (RV.mono s _ _ r2)
  stop := fun w1 H1 s => ⟨ys, ys', st w1 H1 s, st' w1 H1 s, by rw [zipV_length, r.length, r'.length]; omega⟩
theorem itzT_ok {K : PySem.W.Frag} {w : Wd} {H : Hp} {xs xs' : List VV} {a b : Addr} {ys ys' : List V} (st : ∀ w1 H1, Sees w H w1 H1 → SqT K H1 a ys) (r : RVs K g.adr w H xs ys) (st' : ∀ w1 H1, Sees w H w1 H1 → SqT K H1 b ys') (r' : RVs K g.adr w H xs' ys') :
    ItOk K g w H (zipV xs xs') (RZ.ItzT K a b) where
  step := fun w1 h1 H1 i v s k q => by
    obtain ⟨x, x', q1, q2, rfl⟩ := zipV_get _ _ _ _ q
    obtain ⟨z, e1, r1⟩ := r.get i x q1
    obtain ⟨z', e2, r2⟩ := r'.get i x' q2
    refine ⟨⟨ys, ys', z, z', st w1 H1 s, st' w1 H1 s, e1, e2⟩, fun v H2 hy => ?_⟩
    obtain ⟨T, u, u', ev, hT, eH, h3, h4⟩ := hy
    have f1 := h3 ys (st w1 H1 s)
    have f2 := h4 ys' (st' w1 H1 s)
    rw [e1] at f1
    rw [e2] at f2
    cases f1
    cases f2
    rw [ev]
    exact zip_step k hT eH (RV.mono s _ _ r1) (RV.mono s _ _ r2)
  stop := fun w1 H1 s => ⟨ys, ys', st w1 H1 s, st' w1 H1 s, by rw [zipV_length, r.length, r'.length]; omega⟩
def zipI (a : MA) : MI := fun sv h => (a sv h).bind fun xs h1 => match xs with
  | [.tup xs, .tup ys] => .ok (zipV xs ys) h1
  | [.lst xs, .lst ys] => .ok (zipV xs ys) h1
  | [.ktu xs, .ktu ys] => .ok (zipV xs ys) h1
  | [.ktu xs, .tup ys] => .ok (zipV xs ys) h1
  | [.tup xs, .ktu ys] => .ok (zipV xs ys) h1
  | _ => .bad
theorem ri_zip {elts : List Expr} {kk : Nat} {tpos : Pos} (hg : Gl X "zip") (hm : X.mg "zip" = none) (ha : RA X g W [e, e2] ma) (hs : starEach [e, e2] X.env = (false, eval e X.env) :: starEach [e2] X.env := by rfl) (hpl : (backTo pos (starEach [e2] X.env)).any (·.1) = false := by rfl) :
    RI X g W (.Tuple elts kk tpos) (.Call (.Name "zip" p) [e, e2] [] pos) (zipI ma) :=
  pi_imp (RZ.pi_zipA hg hm ha hs hpl) fun σ H R ⟨w, sv, h, rs, hk, p⟩ => by
    refine seqG' rs hk p fun w1 H1 h1 v y e1 rs1 k1 r1 p1 => ?_
    split at p1
    · obtain ⟨z, z', rfl, r2, r3⟩ := RVs.two r1
      obtain ⟨a, ys, rfl, q2, st⟩ := RV.tup_st r2
      obtain ⟨b, ys', rfl, q3, st'⟩ := RV.tup_st r3
      exact ⟨a, b, ys, ys', rfl, .inr ⟨st w1 H1 (Sees.refl _ _), st' w1 H1 (Sees.refl _ _), Post.here p1 k1 (itzT_ok st q2 st' q3)⟩⟩
    · obtain ⟨z, z', rfl, r2, r3⟩ := RVs.two r1
      obtain ⟨a, ys, rfl, q2, st⟩ := RV.lst_st r2
      obtain ⟨b, ys', rfl, q3, st'⟩ := RV.lst_st r3
      exact ⟨a, b, ys, ys', rfl, .inl ⟨st w1 H1 (Sees.refl _ _), st' w1 H1 (Sees.refl _ _), Post.here p1 k1 (itz_ok st q2 st' q3)⟩⟩
    · obtain ⟨z, z', rfl, r2, r3⟩ := RVs.two r1
      obtain ⟨a, ys, rfl, q2, st⟩ := RV.ktu_st r2
      obtain ⟨b, ys', rfl, q3, st'⟩ := RV.ktu_st r3
      exact ⟨a, b, ys, ys', rfl, .inr ⟨st w1 H1 (Sees.refl _ _), st' w1 H1 (Sees.refl _ _), Post.here p1 k1 (itzT_ok st q2 st' q3)⟩⟩
    · obtain ⟨z, z', rfl, r2, r3⟩ := RVs.two r1
      obtain ⟨a, ys, rfl, q2, st⟩ := RV.ktu_st r2
      obtain ⟨b, ys', rfl, q3, st'⟩ := RV.tup_st r3
      exact ⟨a, b, ys, ys', rfl, .inr ⟨st w1 H1 (Sees.refl _ _), st' w1 H1 (Sees.refl _ _), Post.here p1 k1 (itzT_ok st q2 st' q3)⟩⟩
    · obtain ⟨z, z', rfl, r2, r3⟩ := RVs.two r1
      obtain ⟨a, ys, rfl, q2, st⟩ := RV.tup_st r2
      obtain ⟨b, ys', rfl, q3, st'⟩ := RV.ktu_st r3
      exact ⟨a, b, ys, ys', rfl, .inr ⟨st w1 H1 (Sees.refl _ _), st' w1 H1 (Sees.refl _ _), Post.here p1 k1 (itzT_ok st q2 st' q3)⟩⟩
    · exact p1.elim
end

/-! ### targets -/
/-- a target: which slots get which values -/
abbrev Asg := List (Nat × VV)
abbrev MG := VV → Option Asg
def nameG (i : Nat) : MG := fun v => some [(i, v)]
abbrev MGs := List VV → Option Asg
def nilG : MGs := fun vs => match vs with | [] => some [] | _ => none
def consG (a : MG) (r : MGs) : MGs := fun vs => match vs with | v :: vs => (a v).bind fun p => (r vs).map fun q => p ++ q | [] => none
def tupG (r : MGs) : MG := fun v => match v with | .tup xs => r xs | _ => none
def setsV : Asg → Sv → Sv
  | [], sv => sv
  | (i, v) :: r, sv => setsV r (sv.set i (some v))
def setsR : List (Nat × V) → L2.St → L2.St
  | [], σ => σ
  | (i, v) :: r, σ => setsR r (σ.set i (some v))
def RAsg (K : PySem.W.Frag) (g : Gx) (w : Wd) (H : Hp) : Asg → List (Nat × V) → Prop
  | [], ya => ya = []
  | (i, v) :: r, ya => ∃ y ys, ya = (i, y) :: ys ∧ RV K g.adr w H v y ∧ RAsg K g w H r ys
theorem RAsg.app {K : PySem.W.Frag} {g : Gx} {w : Wd} {H : Hp} : ∀ {a b : Asg} {ya yb : List (Nat × V)}, RAsg K g w H a ya → RAsg K g w H b yb → RAsg K g w H (a ++ b) (ya ++ yb)
  | [], _, _, _, h, h' => by unfold RAsg at h; subst h; exact h'
  | (i, v) :: r, _, _, _, h, h' => by
    unfold RAsg at h
    obtain ⟨y, ys, rfl, h1, h2⟩ := h
    show RAsg K g w H ((i, v) :: (r ++ _)) ((i, y) :: (ys ++ _))
    unfold RAsg
    exact ⟨y, _, rfl, h1, RAsg.app h2 h'⟩
theorem setsR_app : ∀ (a b : List (Nat × V)) (σ : L2.St), setsR (a ++ b) σ = setsR b (setsR a σ)
  | [], b, σ => rfl
  | (i, v) :: r, b, σ => setsR_app r b _
theorem setsR_length : ∀ (a : List (Nat × V)) (σ : L2.St), (setsR a σ).length = σ.length
  | [], σ => rfl
  | (i, v) :: r, σ => by unfold setsR; rw [setsR_length, List.length_set]
def tGt (K : PySem.W.Frag) (g : Gx) (mg : MG) : TG := fun y σ H Q => ∃ w h v asg, Hk K g.adr w h H ∧ RV K g.adr w H v y ∧ mg v = some asg ∧ ∀ ya, RAsg K g w H asg ya → Q (setsR ya σ) H
def tGts (K : PySem.W.Frag) (g : Gx) (mg : MGs) : TGs := fun ys σ H Q => ∃ w h vs asg, Hk K g.adr w h H ∧ RVs K g.adr w H vs ys ∧ mg vs = some asg ∧ ∀ ya, RAsg K g w H asg ya → Q (setsR ya σ) H
abbrev RG (X : Cx) (g : Gx) (tg : Expr) (mg : MG) : Prop := PG X tg (tGt X.K g mg)
abbrev RGs (X : Cx) (g : Gx) (ts : List Expr) (mg : MGs) : Prop := PGs X ts (tGts X.K g mg)
theorem pg_imp {X : Cx} {tg : Expr} {t t' : TG} (h : PG X tg t) (i : ∀ y σ H Q, t' y σ H Q → t y σ H Q) : PG X tg t' := ⟨fun pins s σ H v u Q I r q => h.run pins s σ H v u Q I r (i v σ H Q q)⟩
theorem pgs_imp {X : Cx} {tg : List Expr} {t t' : TGs} (h : PGs X tg t) (i : ∀ y σ H Q, t' y σ H Q → t y σ H Q) : PGs X tg t' := ⟨fun pins s σ H v u Q I r q => h.run pins s σ H v u Q I r (i v σ H Q q)⟩
theorem RSl.set {K : PySem.W.Frag} {g : Gx} {w : Wd} {H : Hp} {sv : Sv} {σ : L2.St} {i : Nat} {v : VV} {y : V} (rs : RSl K g w H sv σ) (r : RV K g.adr w H v y) : RSl K g w H (sv.set i (some v)) (σ.set i (some y)) where
  len := by rw [List.length_set, List.length_set]; exact rs.len
  get := fun j u h => by
    by_cases c : i = j
    · subst c
      by_cases hi : i < sv.length
      · rw [List.getElem?_set_self hi] at h
        cases h
        exact ⟨y, by rw [List.getElem?_set_self (by rw [← rs.len]; exact hi)], r⟩
      · rw [List.getElem?_eq_none (by simpa using hi)] at h
        cases h
    · rw [List.getElem?_set_ne c] at h ⊢
      exact rs.get j u h
theorem RSl.sets {K : PySem.W.Frag} {g : Gx} {w : Wd} {H : Hp} : ∀ {asg : Asg} {ya : List (Nat × V)} {sv : Sv} {σ : L2.St}, RSl K g w H sv σ → RAsg K g w H asg ya → RSl K g w H (setsV asg sv) (setsR ya σ)
  | [], _, _, _, rs, r => by unfold RAsg at r; subst r; exact rs
  | (i, v) :: r, _, _, _, rs, h => by
    unfold RAsg at h
    obtain ⟨y, ys, rfl, h1, h2⟩ := h
    unfold setsV setsR
    exact RSl.sets (rs.set h1) h2
/-- the slots that a target sets -/
def InIs (mg : MG) (is : List Nat) : Prop := ∀ v asg, mg v = some asg → ∀ p ∈ asg, p.1 ∈ is
def InIss (mg : MGs) (is : List Nat) : Prop := ∀ v asg, mg v = some asg → ∀ p ∈ asg, p.1 ∈ is
theorem inis_name (i : Nat) : InIs (nameG i) [i] := fun v asg h p hp => by
  unfold nameG at h
  cases h
  simpa using congrArg Prod.fst (List.mem_singleton.mp hp)
theorem iniss_nil : InIss nilG [] := fun v asg h p hp => by
  unfold nilG at h
  split at h
  · cases h; cases hp
  · cases h
theorem iniss_cons {a : MG} {r : MGs} {is js : List Nat} (h1 : InIs a is) (h2 : InIss r js) : InIss (consG a r) (is ++ js) := fun v asg h p hp => by
  unfold consG at h
  split at h
  · obtain ⟨x, e1, h⟩ := Option.bind_eq_some_iff.mp h
    obtain ⟨y, e2, rfl⟩ := Option.map_eq_some_iff.mp h
    rcases List.mem_append.mp hp with hp | hp
    · exact List.mem_append_left _ (h1 _ _ e1 p hp)
    · exact List.mem_append_right _ (h2 _ _ e2 p hp)
  · cases h
theorem inis_tup {r : MGs} {is : List Nat} (h1 : InIss r is) : InIs (tupG r) is := fun v asg h p hp => by
  unfold tupG at h
  split at h
  · exact h1 _ _ h p hp
  · cases h
theorem setsR_ne : ∀ {ya : List (Nat × V)} {σ : L2.St} {j : Nat}, (∀ p ∈ ya, p.1 ≠ j) → (setsR ya σ)[j]? = σ[j]?
  | [], _, _, _ => rfl
  | (i, v) :: r, σ, j, h => by
    unfold setsR
    rw [setsR_ne fun p hp => h p (List.mem_cons_of_mem _ hp), List.getElem?_set_ne (h (i, v) List.mem_cons_self)]
theorem RAsg.ix {K : PySem.W.Frag} {g : Gx} {w : Wd} {H : Hp} : ∀ {asg : Asg} {ya : List (Nat × V)}, RAsg K g w H asg ya → ∀ p ∈ ya, ∃ q ∈ asg, q.1 = p.1
  | [], _, h, p, hp => by unfold RAsg at h; subst h; cases hp
  | (i, v) :: r, _, h, p, hp => by
    unfold RAsg at h
    obtain ⟨y, ys, rfl, h1, h2⟩ := h
    rcases List.mem_cons.mp hp with e | hp
    · exact ⟨(i, v), List.mem_cons_self, by rw [e]⟩
    · obtain ⟨q, hq, e⟩ := RAsg.ix h2 p hp
      exact ⟨q, List.mem_cons_of_mem _ hq, e⟩
section
variable {X : Cx} {g : Gx} {pos : Pos}
theorem rg_name (i : Nat) {x : Str} (hN : X.N.Nodup) (hi : X.N[i]? = some x := by rfl) (hx : Loc X.env.scope x := by first | exact Or.inl rfl | exact Or.inr rfl) (hf : X.fn x = true ∨ X.env.scope.names.lookup x = some .local := by first | exact .inl rfl | exact .inr rfl) : RG X g (.Name x pos) (nameG i) :=
  pg_imp (pg_name hN hi hx hf) fun y σ H Q ⟨w, h, v, asg, hk, r, e, q⟩ => by
    unfold nameG at e
    cases e
    exact q [(i, y)] (by unfold RAsg; exact ⟨y, [], rfl, r, by unfold RAsg; rfl⟩)
theorem rgs_nil : RGs X g [] nilG := pgs_imp pgs_nil fun ys σ H Q ⟨w, h, vs, asg, hk, r, e, q⟩ => by
  unfold nilG at e
  split at e
  · cases e
    exact ⟨by simpa only [RVs] using r, q [] (by unfold RAsg; rfl)⟩
  · cases e
theorem rgs_cons {e : Expr} {es : List Expr} {mg : MG} {ms : MGs} (h1 : RG X g e mg) (h2 : RGs X g es ms) (hs : (assignEach (e :: es) X.env).map (·.2) = assign e X.env :: (assignEach es X.env).map (·.2) := by rfl) : RGs X g (e :: es) (consG mg ms) :=
  pgs_imp (pgs_cons h1 h2 hs) fun ys σ H Q ⟨w, h, vs, asg, hk, r, e, q⟩ => by
    unfold consG at e
    split at e
    · rename_i v vs
      simp only [RVs] at r
      obtain ⟨y, yr, rfl, r1, r2⟩ := r
      obtain ⟨p1, e1, e⟩ := Option.bind_eq_some_iff.mp e
      obtain ⟨p2, e2, rfl⟩ := Option.map_eq_some_iff.mp e
      refine ⟨y, yr, rfl, w, h, v, p1, hk, r1, e1, fun ya ra => ?_⟩
      refine ⟨w, h, vs, p2, hk, r2, e2, fun yb rb => ?_⟩
      rw [← setsR_app]
      exact q _ (ra.app rb)
    · cases e
theorem rg_tup {es : List Expr} {k : Nat} {ms : MGs} {n : Nat} (hc : X.calm = true) (h : RGs X g es ms) (hl : ∀ vs asg, ms vs = some asg → vs.length = n) (hn : (assignEach es X.env).length = n := by rfl) (hst : (assignEach es X.env).findIdx? (·.1) = none := by rfl) : RG X g (.Tuple es k pos) (tupG ms) :=
  pg_imp (pg_tup hc h hn hst) fun y σ H Q ⟨w, h, v, asg, hk, r, e, q⟩ => by
    unfold tupG at e
    split at e
    · obtain ⟨a, ys, rfl, ha, r1⟩ := RV.tup_get r
      exact ⟨a, ys, rfl, ha, by rw [← r1.length]; exact hl _ _ e, w, h, _, asg, hk, r1, e, q⟩
    · cases e
theorem nilG_len : ∀ vs asg, nilG vs = some asg → vs.length = 0 := fun vs asg h => by
  unfold nilG at h
  split at h
  · rfl
  · cases h
theorem consG_len {a : MG} {r : MGs} {n : Nat} (hl : ∀ vs asg, r vs = some asg → vs.length = n) : ∀ vs asg, consG a r vs = some asg → vs.length = n + 1 := fun vs asg h => by
  unfold consG at h
  split at h
  · obtain ⟨p1, e1, e⟩ := Option.bind_eq_some_iff.mp h
    obtain ⟨p2, e2, rfl⟩ := Option.map_eq_some_iff.mp e
    rw [List.length_cons, hl _ _ e2]
  · cases h
end

/-! ### an object under guard: made here, changed here, seen by no other -/
def Wd.guard (w : Wd) (D : Addr) : Wd := { w with P := fun a => w.P a ∨ a = D }
def Wd.bare (w : Wd) (P : Addr → Prop) : Wd := { w with P := P }
section
variable {K : PySem.W.Frag} {g : Gx} {w w2 : Wd} {H H2 : Hp} {h h2 : VH} {D : Addr} {o : HO}
theorem mut_guard {a : Addr} : (w.guard D).mut a ↔ w.mut a ∨ a = D := by
  unfold Wd.guard Wd.mut
  constructor
  · rintro (h | (h | h) | h)
    · exact .inl (.inl h)
    · exact .inl (.inr (.inl h))
    · exact .inr h
    · exact .inl (.inr (.inr h))
  · rintro ((h | h | h) | h)
    · exact .inl h
    · exact .inr (.inl (.inl h))
    · exact .inr (.inr h)
    · exact .inr (.inl (.inr h))
theorem guard_sees (k : Hk K g.adr w h H) (hD : H D = none) : Sees w H (w.guard D) (upd H D o) where
  keep := fun a u q m => by
    have ne := ne_of_none q hD
    exact ⟨by rw [upd_ne ne]; exact q, fun z => (mut_guard.mp z).elim m ne⟩
  refs := fun _ _ _ q => q
  len := Nat.le_refl _
theorem guard_hk (k : Hk K g.adr w h H) (hD : H D = none) (hd : dat o = true := by rfl) : Hk K g.adr (w.guard D) h (upd H D o) where
  len := k.len
  inj := k.inj
  obj := fun n a hn => by
    obtain ⟨u, h1, h2⟩ := k.obj n a hn
    exact ⟨u, h1, RO.mono (guard_sees k hD) u a (fun z q => by rw [upd_ne (ne_of_none q hD)]; exact q) h2⟩
  has := k.has
  prot := fun a ha => by
    by_cases e : a = D
    · subst e
      refine ⟨by rw [upd_same]; simp, fun z => ?_⟩
      exact k.live (.inl z) hD
    · have ha' : w.P a ∨ some a ∈ w.O := by
        rcases ha with (z | z) | z
        · exact .inl z
        · exact (e z).elim
        · exact .inr z
      obtain ⟨h1, h2⟩ := k.prot a ha'
      exact ⟨by rw [upd_ne e]; exact h1, h2⟩
  own := fun a ha => by
    rcases ha with z | z
    · exact k.own a z
    · subst z
      intro q
      exact k.live (.inr (.inr q)) hD
  ownI := k.ownI
  spc := k.spc.upd hd fun a ne => ⟨id, fun z => (mut_guard.mp z).elim id fun e => (ne e).elim⟩
/-- the guarded object is changed -/
theorem guard_set_sees (hP : w2.P = (w.guard D).P) : Sees w2 H2 w2 (upd H2 D o) where
  keep := fun a u q m => by
    have ne : a ≠ D := fun e => m (.inr (.inl (by rw [hP]; exact .inr e)))
    exact ⟨by rw [upd_ne ne]; exact q, m⟩
  refs := fun _ _ _ q => q
  len := Nat.le_refl _
theorem guard_set_hk (hP : w2.P = (w.guard D).P) (k : Hk K g.adr w2 h2 H2) (hd : dat o = true := by rfl) : Hk K g.adr w2 h2 (upd H2 D o) where
  len := k.len
  inj := k.inj
  obj := fun n a hn => by
    obtain ⟨u, h1, h3⟩ := k.obj n a hn
    have ne : a ≠ D := fun e => (k.prot D (.inl (by rw [hP]; exact .inr rfl))).2 (by rw [← e]; exact List.mem_of_getElem? hn)
    exact ⟨u, h1, RO.mono (guard_set_sees hP) u a (fun z q => by rw [upd_ne ne]; exact q) h3⟩
  has := k.has
  prot := fun a ha => by
    obtain ⟨h1, h3⟩ := k.prot a ha
    by_cases e : a = D
    · subst e
      exact ⟨by rw [upd_same]; simp, h3⟩
    · exact ⟨by rw [upd_ne e]; exact h1, h3⟩
  own := k.own
  ownI := k.ownI
  spc := k.spc.put hd
/-- the guard is given up -/
theorem unguard_sees (hP : w2.P = (w.guard D).P) : Sees w2 H2 (w2.bare w.P) H2 where
  keep := fun a u q m => ⟨q, fun z => m (by
    rcases z with z | z | z
    · exact .inl z
    · exact .inr (.inl (by rw [hP]; exact .inl z))
    · exact .inr (.inr z))⟩
  refs := fun _ _ _ q => q
  len := Nat.le_refl _
theorem unguard_hk (hP : w2.P = (w.guard D).P) (k : Hk K g.adr w2 h2 H2) : Hk K g.adr (w2.bare w.P) h2 H2 where
  len := k.len
  inj := k.inj
  obj := fun n a hn => by
    obtain ⟨u, h1, h3⟩ := k.obj n a hn
    exact ⟨u, h1, RO.mono (unguard_sees hP) u a (fun z q => q) h3⟩
  has := k.has
  prot := fun a ha => k.prot a (by
    rcases ha with z | z
    · exact .inl (by rw [hP]; exact .inl z)
    · exact .inr z)
  own := fun a ha => k.own a (by rw [hP]; exact .inl ha)
  ownI := k.ownI
  spc := k.spc.imp fun a => ⟨id, fun z => by
    rcases z with z | z | z
    · exact .inl z
    · exact .inr (.inl (by rw [hP]; exact .inl z))
    · exact .inr (.inr z)⟩
end
/-- how far a guarded walk has come: all from (w, H) stands as behind an expression -/
structure Gd (w : Wd) (H : Hp) (D : Addr) (w2 : Wd) (H2 : Hp) : Prop where
  keep : ∀ a o, H a = some o → ¬ w.mut a → H2 a = some o ∧ ¬ w2.mut a
  refs : ∀ (n : Nat) (b : Addr), n < w.phi.length → w2.phi[n]? = some (some b) → w.phi[n]? = some (some b)
  len : w.phi.length ≤ w2.phi.length
  P : w2.P = (w.guard D).P
  O : w2.O = w.O
  prot : ∀ a, w.P a ∨ some a ∈ w.O → H2 a = H a
section
variable {K : PySem.W.Frag} {g : Gx} {w w2 w3 : Wd} {H H2 H3 : Hp} {h : VH} {D : Addr} {o : HO}
theorem Gd.start (k : Hk K g.adr w h H) (hD : H D = none) : Gd w H D (w.guard D) (upd H D o) where
  keep := (guard_sees k hD).keep
  refs := fun _ _ _ q => q
  len := Nat.le_refl _
  P := rfl
  O := rfl
  prot := fun a ha => upd_ne fun e => k.live (.inr ha) (e ▸ hD)
theorem Gd.sees (d : Gd w H D w2 H2) : Sees w H w2 H2 := ⟨d.keep, d.refs, d.len⟩
theorem Gd.ext (d : Gd w H D w2 H2) (e : Ext w2 H2 w3 H3) : Gd w H D w3 H3 where
  keep := (d.sees.trans e.sees).keep
  refs := (d.sees.trans e.sees).refs
  len := (d.sees.trans e.sees).len
  P := e.P.trans d.P
  O := e.O.trans d.O
  prot := fun a ha => (e.prot a (by
    rcases ha with z | z
    · exact .inl (by rw [d.P]; exact .inl z)
    · exact .inr (by rw [d.O]; exact z))).trans (d.prot a ha)
theorem Gd.set (k : Hk K g.adr w h H) (hD : H D = none) (d : Gd w H D w2 H2) : Gd w H D w2 (upd H2 D o) where
  keep := fun a u q m => by
    obtain ⟨h1, h2⟩ := d.keep a u q m
    exact ⟨by rw [upd_ne (ne_of_none q hD)]; exact h1, h2⟩
  refs := d.refs
  len := d.len
  P := d.P
  O := d.O
  prot := fun a ha => by
    rw [upd_ne (show a ≠ D from fun e => k.live (.inr ha) (by rw [e]; exact hD))]
    exact d.prot a ha
theorem Gd.done (d : Gd w H D w2 H2) : Ext w H (w2.bare w.P) H2 where
  keep := fun a u q m => by
    obtain ⟨h1, h2⟩ := d.keep a u q m
    exact ⟨h1, fun z => h2 (by
      rcases z with z | z | z
      · exact .inl z
      · exact .inr (.inl (by rw [d.P]; exact .inl z))
      · exact .inr (.inr z))⟩
  refs := d.refs
  len := d.len
  P := rfl
  O := d.O
  prot := d.prot
theorem Gd.free (k : Hk K g.adr w h H) (hD : H D = none) {h2 : VH} (k2 : Hk K g.adr w2 h2 H2) (d : Gd w H D w2 H2) : ¬ (w2.bare w.P).mut D := fun z => by
  have hP : w2.P D := by rw [d.P]; exact .inr rfl
  rcases z with z | z | z
  · exact (k2.prot D (.inl hP)).2 z
  · exact k.live (.inr (.inl z)) hD
  · exact k2.own D hP z
end

/-! ### a dict that is done is locked -/
section
variable {X : Cx} {g : Gx} {W : WX} {w w2 : Wd} {H H2 : Hp} {h h2 : VH} {D : Addr} {σ : L2.St} {Q : VK}
theorem fz_dct {ks vs : List VV} {kvs : List (Key × V)} (k1 : Hk X.K g.adr w h H) (hD : H D = none) (gd : Gd w H D w2 H2) (k2 : Hk X.K g.adr w2 h2 H2) (hD2 : H2 D = some (.dK kvs)) (rk : RVs X.K g.adr w2 H2 ks (kvs.map fun p => kV p.1)) (rv : RVs X.K g.adr w2 H2 vs (kvs.map fun p => p.2))
    (p2 : Post X.K g (relV X.K g) w H σ Q W (.ok (.dct ks vs) h2)) : ∃ d u, V.ref D = .ref d ∧ H2 d = some u ∧ Mut (some u) ∧ ∀ od, Q (.ref D) (upd H2 d (.frz od u)) := by
  refine ⟨D, _, rfl, hD2, True.intro, fun od => ?_⟩
  have sg : Sees w2 H2 w2 (upd H2 D (.frz od (.dK kvs))) := guard_set_sees gd.P
  have gd2 : Gd w H D w2 (upd H2 D (.frz od (.dK kvs))) := gd.set k1 hD
  have k3 := guard_set_hk (o := .frz od (.dK kvs)) gd.P k2
  refine p2 (w2.bare w.P) _ (.ref D) gd2.done (unguard_hk gd2.P k3) ?_
  simp only [relV, RV]
  exact ⟨D, kvs, rfl, ⟨od, upd_same, gd2.free k1 hD k3⟩, RVs.mono (sg.trans (unguard_sees gd2.P)) _ _ rk, RVs.mono (sg.trans (unguard_sees gd2.P)) _ _ rv⟩
theorem fz_dtt {ks vs : List VV} {kvs : List (List Key × V)} (k1 : Hk X.K g.adr w h H) (hD : H D = none) (gd : Gd w H D w2 H2) (k2 : Hk X.K g.adr w2 h2 H2) (hD2 : H2 D = some (.dT kvs)) (rk : ks = keysT kvs) (rv : RVs X.K g.adr w2 H2 vs (kvs.map fun p => p.2))
    (p2 : Post X.K g (relV X.K g) w H σ Q W (.ok (.dtt ks vs) h2)) : ∃ d u, V.ref D = .ref d ∧ H2 d = some u ∧ Mut (some u) ∧ ∀ od, Q (.ref D) (upd H2 d (.frz od u)) := by
  refine ⟨D, _, rfl, hD2, True.intro, fun od => ?_⟩
  have sg : Sees w2 H2 w2 (upd H2 D (.frz od (.dT kvs))) := guard_set_sees gd.P
  have gd2 : Gd w H D w2 (upd H2 D (.frz od (.dT kvs))) := gd.set k1 hD
  have k3 := guard_set_hk (o := .frz od (.dT kvs)) gd.P k2
  refine p2 (w2.bare w.P) _ (.ref D) gd2.done (unguard_hk gd2.P k3) ?_
  simp only [relV, RV]
  exact ⟨D, kvs, rfl, ⟨od, upd_same, gd2.free k1 hD k3⟩, rk, RVs.mono (sg.trans (unguard_sees gd2.P)) _ _ rv⟩
end

/-! ### list comprehensions -/
def wipeS (sv : Sv) : List Nat → Sv
  | [] => sv
  | v :: vs => (wipeS sv vs).set v none
theorem RSl.wipe {K : PySem.W.Frag} {g : Gx} {w : Wd} {H : Hp} {sv : Sv} {σ : L2.St} (rs : RSl K g w H sv σ) : ∀ vs, RSl K g w H (wipeS sv vs) (wipe σ vs)
  | [] => rs
  | v :: vs => by
    have ih := RSl.wipe rs vs
    unfold wipeS L2.wipe
    refine ⟨by rw [List.length_set, List.length_set]; exact ih.len, fun j u h => ?_⟩
    by_cases c : v = j
    · subst c
      by_cases hi : v < (wipeS sv vs).length
      · rw [List.getElem?_set_self hi] at h
        cases h
      · rw [List.getElem?_eq_none (by simpa using hi)] at h
        cases h
    · rw [List.getElem?_set_ne c] at h ⊢
      exact ih.get j u h
theorem wipe_get (σ : L2.St) : ∀ (vs : List Nat) (j : Nat), (wipe σ vs)[j]? = if j ∈ vs then (if j < σ.length then some none else none) else σ[j]?
  | [], j => by simp [wipe]
  | v :: vs, j => by
    unfold wipe
    by_cases c : v = j
    · subst c
      rw [if_pos List.mem_cons_self]
      by_cases hi : v < σ.length
      · rw [List.getElem?_set_self (by rw [wipe_length]; exact hi), if_pos hi]
      · rw [List.getElem?_eq_none (by rw [List.length_set, wipe_length]; omega), if_neg hi]
    · rw [List.getElem?_set_ne c, wipe_get σ vs j]
      have : (j ∈ v :: vs) ↔ j ∈ vs := by simp [Ne.symm c]
      simp only [this]
theorem wipe_eq {σ σ' : L2.St} {is vs : List Nat} (hl : σ'.length = (wipe σ vs).length) (hs : ∀ j ∈ is, j ∈ vs) (hn : ∀ j, j ∉ is → σ'[j]? = (wipe σ vs)[j]?) : wipe σ' vs = wipe σ vs := by
  rw [wipe_length] at hl
  apply List.ext_getElem?
  intro j
  rw [wipe_get, wipe_get, hl]
  by_cases c : j ∈ vs
  · rw [if_pos c, if_pos c]
  · rw [if_neg c, if_neg c, hn j fun z => c (hs j z), wipe_get, if_neg c]
def yesT : MT := fun _ h => .ok true h
/-- no exception (a comprehension's block lets none out) -/
def Out.nox {α : Type} : Out α → Out α
  | .exc _ _ => .bad
  | r => r
/-- the turns -/
def lcGo (sv : Sv) (mg : MG) (t : MT) (e : ME) : List VV → VH → Out (List VV)
  | [], h => .ok [] h
  | v :: r, h => match mg v with
    | none => .bad
    | some asg => (t (setsV asg sv) h).nox.bind fun b h1 => if b then (e (setsV asg sv) h1).nox.bind fun y h2 => (lcGo sv mg t e r h2).bind fun ys h3 => .ok (y :: ys) h3 else lcGo sv mg t e r h1
def lcM (it : MI) (mg : MG) (vs : List Nat) (t : MT) (e : ME) : ME := fun sv h => (it sv h).bind fun items h1 => if fits items.length then (lcGo (wipeS sv vs) mg t e items h1).bind fun out h2 => .ok (.lst out) h2 else .bad
abbrev W0 : WX := fun _ _ _ _ => False
theorem Out.bind_assoc {α β γ : Type} (r : Out α) (f : α → VH → Out β) (k : β → VH → Out γ) : (r.bind f).bind k = r.bind fun a h => (f a h).bind k := by cases r <;> rfl
section
variable {X : Cx} {g : Gx} {W : WX} {tg iter elt : Expr} {ifs : List Expr} {scope : Scope} {pos : Pos} {mi : MI} {mg : MG} {is : List Nat} {mt : MT} {me : ME}
abbrev RTs (X : Cx) (g : Gx) (W : WX) (ifs : List Expr) (m : MT) : Prop := PTs X ifs (tG X.K g relB m W)
theorem pts_imp {ifs : List Expr} {t t' : TT} (h : PTs X ifs t) (i : ∀ σ H Q, t' σ H Q → t σ H Q) : PTs X ifs t' := ⟨fun pins s σ H Q I q => h.run pins s σ H Q I (i σ H Q q)⟩
theorem rts_nil : RTs X g W [] yesT := pts_imp pts_nil fun σ H Q ⟨w, sv, h, rs, hk, p⟩ => Post.here p hk rfl
theorem rts_one {c : Expr} {m : MT} (h : RT X g W c m) : RTs X g W [c] m := pts_one h
/-- what the comprehension's reading asks, from the mirror -/
theorem lc_imp {vs : List Nat} (hIn : InIs mg is) (hs : ∀ j ∈ is, j ∈ vs) {σ : L2.St} {H : Hp} {Q : VK} (t : tG X.K g (relV X.K g) (lcM mi mg vs mt me) W σ H Q) :
    tLc (tG X.K g (relI X.K g) mi W) (tGt X.K g mg) (tG X.K g relB mt W0) (tG X.K g (relV X.K g) me W0) vs σ H Q := by
  obtain ⟨w, sv, h, rs, hk, p⟩ := t
  refine seqG' rs hk p fun w1 H1 h1 items J e1 rs1 k1 r1 p1 => ?_
  intro D hD
  -- p1 : the post of the turns from h1 on
  by_cases hf : fits items.length = true
  case neg => rw [if_neg hf] at p1; exact p1.elim
  rw [if_pos hf] at p1
  have hz := fits_le hf
  refine ⟨fun i m H2 => m = items.length - i ∧ i ≤ items.length ∧ ∃ w2 h2 acc accV, Gd w1 H1 D w2 H2 ∧ Hk X.K g.adr w2 h2 H2 ∧ H2 D = some (.lst accV) ∧ RVs X.K g.adr w2 H2 acc accV ∧ accV.length ≤ i ∧
      RSl X.K g w2 H2 (wipeS sv vs) (wipe σ vs) ∧ Post X.K g (relV X.K g) w1 H1 σ Q W ((lcGo (wipeS sv vs) mg mt me (items.drop i) h2).bind fun ys h3 => .ok (.lst (acc ++ ys)) h3),
    ⟨items.length, by simp, Nat.zero_le _, w1.guard D, h1, [], [], Gd.start k1 hD, guard_hk k1 hD, upd_same, by simp [RVs], Nat.le_refl _, (rs1.wipe vs).mono _ _ (guard_sees k1 hD), by simpa using p1⟩, ?_⟩
  rintro i m H2 ⟨rfl, hi, w2, h2, acc, accV, gd, k2, hD2, ra, hl, rs2, p2⟩
  by_cases hlt : i < items.length
  · -- a turn
    right
    have hv : items[i]? = some items[i] := List.getElem?_eq_getElem hlt
    generalize items[i] = v at hv
    have hdrop : items.drop i = v :: items.drop (i + 1) := by
      rw [List.drop_eq_getElem_cons hlt]
      congr 1
      rw [List.getElem?_eq_getElem hlt] at hv
      exact Option.some.inj hv
    rw [hdrop] at p2
    simp only [lcGo] at p2
    obtain ⟨go, yl⟩ := r1.step w2 h2 H2 i v gd.sees k2 hv
    refine ⟨go, fun H' => ∃ w3 h3 acc accV, Gd w1 H1 D w3 H' ∧ Hk X.K g.adr w3 h3 H' ∧ H' D = some (.lst accV) ∧ RVs X.K g.adr w3 H' acc accV ∧ accV.length ≤ i + 1 ∧
      RSl X.K g w3 H' (wipeS sv vs) (wipe σ vs) ∧ Post X.K g (relV X.K g) w1 H1 σ Q W ((lcGo (wipeS sv vs) mg mt me (items.drop (i + 1)) h3).bind fun ys h3 => .ok (.lst (acc ++ ys)) h3),
      fun H' q => ⟨items.length - (i + 1), by omega, rfl, hlt, q⟩, fun x H3 hy => ?_⟩
    obtain ⟨ex, k3, rx⟩ := yl x H3 hy
    cases em : mg v with
    | none => rw [em] at p2; exact p2.elim
    | some asg =>
      rw [em] at p2
      dsimp only at p2
      refine ⟨w2, h2, v, asg, k3, rx, em, fun ya rya => ?_⟩
      have rs3 := (rs2.mono _ _ ex.sees).sets rya
      refine ⟨wipe_eq (is := is) (setsR_length _ _) hs fun j hj => setsR_ne fun p hp z => ?_, ?_⟩
      · obtain ⟨q, hq, e⟩ := rya.ix p hp
        exact hj (by rw [← z, ← e]; exact hIn v asg em q hq)
      generalize setsV asg (wipeS sv vs) = sv2 at rs3 p2
      generalize setsR ya (wipe σ vs) = σ2 at rs3
      rw [Out.bind_assoc] at p2
      -- the test
      have gd3 := gd.ext ex
      have hD3 : H3 D = some (.lst accV) := by
        rw [ex.prot D (.inl (by rw [gd.P]; exact .inr rfl))]
        exact hD2
      have ra3 := RVs.mono ex.sees _ _ ra
      refine ⟨w2, sv2, h2, rs3, k3, ?_⟩
      cases et : mt sv2 h2 with
      | bad => rw [et] at p2; exact p2.elim
      | exc x h4 => rw [et] at p2; exact p2.elim
      | ok b h4 =>
        rw [et] at p2
        simp only [Out.nox, Out.bind] at p2
        intro w4 H4 b' e4 k4 eb
        have eb : b = b' := eb
        subst eb
        have gd4 := gd3.ext e4
        have hD4 : H4 D = some (.lst accV) := by
          rw [e4.prot D (.inl (by rw [gd3.P]; exact .inr rfl))]
          exact hD3
        have ra4 := RVs.mono e4.sees _ _ ra3
        have rs4 := (rs2.mono _ _ ex.sees).mono _ _ e4.sees
        cases b with
        | false =>
          rw [if_neg Bool.false_ne_true] at p2 ⊢
          exact ⟨w4, h4, acc, accV, gd4, k4, hD4, ra4, Nat.le_succ_of_le hl, rs4, p2⟩
        | true =>
          rw [if_pos rfl] at p2 ⊢
          refine ⟨w4, sv2, h4, rs3.mono _ _ e4.sees, k4, ?_⟩
          cases ee : me sv2 h4 with
          | bad => rw [ee] at p2; exact p2.elim
          | exc x h5 => rw [ee] at p2; exact p2.elim
          | ok yv h5 =>
            rw [ee] at p2
            simp only [Out.nox, Out.bind] at p2
            intro w5 H5 y e5 k5 ry
            have gd5 := gd4.ext e5
            have hD5 : H5 D = some (.lst accV) := by
              rw [e5.prot D (.inl (by rw [gd4.P]; exact .inr rfl))]
              exact hD4
            refine ⟨accV, hD5, Nat.lt_of_lt_of_le (Nat.lt_of_le_of_lt hl hlt) hz, w5, h5, acc ++ [yv], accV ++ [y], gd5.set k1 hD, guard_set_hk gd5.P k5, upd_same, ?_, by simp; omega, (rs4.mono _ _ e5.sees).mono _ _ (guard_set_sees gd5.P), ?_⟩
            · refine RVs.app (RVs.mono (guard_set_sees gd5.P) _ _ (RVs.mono e5.sees _ _ ra4)) ?_
              simp only [RVs]
              exact ⟨y, [], rfl, RV.mono (guard_set_sees gd5.P) _ _ ry, rfl⟩
            · cases eg : lcGo (wipeS sv vs) mg mt me (items.drop (i + 1)) h5 with
              | bad => rw [eg] at p2; exact p2.elim
              | exc x h6 => rw [eg] at p2; exact p2
              | ok ys h6 =>
                rw [eg] at p2
                simpa [Out.bind] using p2
  · left
    have e : i = items.length := by omega
    subst e
    refine ⟨r1.stop w2 H2 gd.sees, ?_⟩
    rw [List.drop_length] at p2
    refine p2 (w2.bare w1.P) H2 (.ref D) gd.done (unguard_hk gd.P k2) ?_
    refine RV.lst_of hD2 (gd.free k1 hD k2) ?_
    rw [List.append_nil]
    exact RVs.mono (unguard_sees gd.P) _ _ ra
/-- [elt for tg in iter if ..] as a value -/
theorem re_lc {own : List (Str × Nat)} (hc : X.calm = true) (hN : X.N.Nodup) (hi : RI X g W tg iter mi) (ok : BlkOk X.N X.env.scope scope own) (his : InIs mg is) (hs : ∀ j ∈ is, j ∈ own.map (·.2))
    (hg : ∀ (s : Shared) (H : Hp) (C : Addr) (cl : List (Str × Addr)) (fp : List Addr), RG (X.blk s H scope (compEnvC scope cl C X.env) fp) g tg mg) (ht : ∀ (s : Shared) (H : Hp) (C : Addr) (cl : List (Str × Addr)) (fp : List Addr), RTs (X.blk s H scope (compEnvC scope cl C X.env) fp) g W0 ifs mt)
    (he : ∀ (s : Shared) (H : Hp) (C : Addr) (cl : List (Str × Addr)) (fp : List Addr), RE (X.blk s H scope (compEnvC scope cl C X.env) fp) g W0 elt me) (hf : ∀ x, foldedSetIterable iter X.env x = pure x := by intro _; rfl) :
    RE X g W (.ListComp elt [⟨tg, iter, ifs, 0⟩] scope pos) (lcM mi mg (own.map (·.2)) mt me) :=
  pe_imp (pe_lc hc hN hi ok hg ht he hf) fun σ H Q t => lc_imp his hs t
end
end Mv
set_option Elab.async false
set_option linter.all false
set_option maxRecDepth 100000
/-! Mv, part F: frames, statements, defs. -/
namespace Mv
open PySem PySem.Spec PyProof.Rows L2

/-! ### frames -/
inductive Slot where
  | no | val (v : VV) | own (xs : List VV)
abbrev Sl := List Slot
def Slot.view : Slot → Option VV
  | .val v => some v
  | _ => none
/-- own lists seen as lists that stand -/
def Slot.viewF : Slot → Option VV
  | .val v => some v
  | .own xs => some (.lst xs)
  | .no => none
def view (sl : Sl) : Sv := sl.map Slot.view
def viewF (sl : Sl) : Sv := sl.map Slot.viewF
inductive SOut where
  | nx (sl : Sl) (h : VH) | rt (v : VV) (h : VH) | bk (sl : Sl) (h : VH) | ct (sl : Sl) (h : VH) | exc (x : Exn) (sl : Sl) (h : VH) | bad
abbrev MS := Sl → VH → SOut
def Out.toS {α : Type} (r : Out α) (sl : Sl) (k : α → VH → SOut) : SOut := match r with
  | .ok a h => k a h
  | .exc x h => .exc x sl h
  | .bad => .bad

section
variable (K : PySem.W.Frag) (g : Gx)
structure RF (w : Wd) (H : Hp) (sl : Sl) (σ : L2.St) : Prop where
  len : sl.length = σ.length
  lenO : w.O.length = sl.length
  val : ∀ (i : Nat) (v : VV), sl[i]? = some (.val v) → w.O[i]? = some none ∧ ∃ y, σ[i]? = some (some y) ∧ RV K g.adr w H v y
  own : ∀ (i : Nat) (xs : List VV), sl[i]? = some (.own xs) → ∃ p ys, w.O[i]? = some (some p) ∧ σ[i]? = some (some (.ref p)) ∧ H p = some (.lst ys) ∧ RVs K g.adr w H xs ys
  no : ∀ (i : Nat), sl[i]? = some .no → w.O[i]? = some none
end
structure ExtS (w : Wd) (H : Hp) (w' : Wd) (H' : Hp) : Prop where
  keep : ∀ a o, H a = some o → ¬ w.mut a → H' a = some o ∧ ¬ w'.mut a
  refs : ∀ (n : Nat) (b : Addr), n < w.phi.length → w'.phi[n]? = some (some b) → w.phi[n]? = some (some b)
  len : w.phi.length ≤ w'.phi.length
  P : w'.P = w.P
  prot : ∀ a, w.P a → H' a = H a
theorem Ext.toS {w w' : Wd} {H H' : Hp} (e : Ext w H w' H') : ExtS w H w' H' := ⟨e.keep, e.refs, e.len, e.P, fun a h => e.prot a (.inl h)⟩
theorem ExtS.refl (w : Wd) (H : Hp) : ExtS w H w H := (Ext.refl w H).toS
theorem ExtS.sees {w w' : Wd} {H H' : Hp} (e : ExtS w H w' H') : Sees w H w' H' := ⟨e.keep, e.refs, e.len⟩
theorem ExtS.trans {w w1 w2 : Wd} {H H1 H2 : Hp} (a : ExtS w H w1 H1) (b : ExtS w1 H1 w2 H2) : ExtS w H w2 H2 where
  keep := (a.sees.trans b.sees).keep
  refs := (a.sees.trans b.sees).refs
  len := (a.sees.trans b.sees).len
  P := b.P.trans a.P
  prot := fun c h => (b.prot c (by rw [a.P]; exact h)).trans (a.prot c h)

section
variable {K : PySem.W.Frag} {g : Gx} {w w' w1 : Wd} {H H' H1 : Hp} {h h1 : VH} {sl : Sl} {σ : L2.St}
theorem view_get {i : Nat} {v : VV} (e : (view sl)[i]? = some (some v)) : sl[i]? = some (.val v) := by
  unfold view at e
  rw [List.getElem?_map] at e
  cases q : sl[i]? with
  | none => rw [q] at e; cases e
  | some s =>
    rw [q] at e
    cases s with
    | val u => simp only [Option.map_some, Slot.view, Option.some.injEq] at e; rw [e]
    | no => simp [Slot.view] at e
    | own xs => simp [Slot.view] at e
theorem RF.rsl (f : RF K g w H sl σ) : RSl K g w H (view sl) σ := ⟨by unfold view; rw [List.length_map]; exact f.len, fun i v e => (f.val i v (view_get e)).2⟩
theorem RF.mono (f : RF K g w H sl σ) (e : Ext w H w' H') : RF K g w' H' sl σ where
  len := f.len
  lenO := by rw [e.O]; exact f.lenO
  val := fun i v q => by
    obtain ⟨h1, y, h2, h3⟩ := f.val i v q
    exact ⟨by rw [e.O]; exact h1, y, h2, RV.mono e.sees _ _ h3⟩
  own := fun i xs q => by
    obtain ⟨p, ys, h1, h2, h3, h4⟩ := f.own i xs q
    exact ⟨p, ys, by rw [e.O]; exact h1, h2, by rw [e.prot p (.inr (List.mem_of_getElem? h1))]; exact h3, RVs.mono e.sees _ _ h4⟩
  no := fun i q => by rw [e.O]; exact f.no i q
/-- seen with the own lists standing -/
def Wd.ice (w : Wd) : Wd := { w with O := List.replicate w.O.length none }
theorem mut_ice {a : Addr} : w.ice.mut a ↔ (some a ∈ w.phi ∨ w.P a) := by
  unfold Wd.ice Wd.mut
  constructor
  · rintro (h | h | h)
    · exact .inl h
    · exact .inr h
    · exact absurd (List.eq_of_mem_replicate h) (by simp)
  · rintro (h | h)
    · exact .inl h
    · exact .inr (.inl h)
theorem ice_sees : Sees w H w.ice H := ⟨fun a o q m => ⟨q, fun z => m ((mut_ice.mp z).elim .inl fun z => .inr (.inl z))⟩, fun _ _ _ q => q, Nat.le_refl _⟩
theorem Hk.ice (k : Hk K g.adr w h H) : Hk K g.adr w.ice h H where
  len := k.len
  inj := k.inj
  obj := fun n a hn => by
    obtain ⟨u, h1, h3⟩ := k.obj n a hn
    exact ⟨u, h1, RO.mono ice_sees u a (fun z q => q) h3⟩
  has := k.has
  prot := fun a ha => by
    rcases ha with z | z
    · exact k.prot a (.inl z)
    · exact absurd (List.eq_of_mem_replicate z) (by simp)
  own := fun a _ z => absurd (List.eq_of_mem_replicate z) (by simp)
  ownI := fun n m a hn _ => absurd (List.eq_of_mem_replicate (List.mem_of_getElem? hn)) (by simp)
  spc := k.spc.imp fun a => ⟨id, fun z => (mut_ice.mp z).elim .inl fun z => .inr (.inl z)⟩
theorem viewF_get {i : Nat} {v : VV} (e : (viewF sl)[i]? = some (some v)) : sl[i]? = some (.val v) ∨ ∃ xs, sl[i]? = some (.own xs) ∧ v = .lst xs := by
  unfold viewF at e
  rw [List.getElem?_map] at e
  cases q : sl[i]? with
  | none => rw [q] at e; cases e
  | some s =>
    rw [q] at e
    cases s with
    | val u => simp only [Option.map_some, Slot.viewF, Option.some.injEq] at e; rw [e]; exact .inl rfl
    | no => simp [Slot.viewF] at e
    | own xs => simp only [Option.map_some, Slot.viewF, Option.some.injEq] at e; exact .inr ⟨xs, rfl, e.symm⟩
theorem own_ice (k : Hk K g.adr w h H) {i : Nat} {p : Addr} (e : w.O[i]? = some (some p)) : ¬ w.ice.mut p := fun z => by
  rcases mut_ice.mp z with z | z
  · exact (k.prot p (.inr (List.mem_of_getElem? e))).2 z
  · exact k.own p z (List.mem_of_getElem? e)
theorem RF.rslF (k : Hk K g.adr w h H) (f : RF K g w H sl σ) : RSl K g w.ice H (viewF sl) σ := ⟨by unfold viewF; rw [List.length_map]; exact f.len, fun i v e => by
  rcases viewF_get e with q | ⟨xs, q, rfl⟩
  · obtain ⟨_, y, h2, h3⟩ := f.val i v q
    exact ⟨y, h2, RV.mono ice_sees _ _ h3⟩
  · obtain ⟨p, ys, h1, h2, h3, h4⟩ := f.own i xs q
    exact ⟨_, h2, RV.lst_of h3 (own_ice k h1) (RVs.mono ice_sees _ _ h4)⟩⟩
/-- the own lists are the frame's again -/
def Wd.thaw (w1 w : Wd) : Wd := { w1 with O := w.O }
theorem thaw_ext (k : Hk K g.adr w h H) (e : Ext w.ice H w1 H1) (ow : ∀ a, some a ∈ w.O → ∃ ys, H a = some (.lst ys)) : Ext w H (w1.thaw w) H1 where
  keep := fun a o q m => by
    have m1 : ¬ w.ice.mut a := fun z => m ((mut_ice.mp z).elim .inl fun z => .inr (.inl z))
    obtain ⟨h1, h2⟩ := e.keep a o q m1
    exact ⟨h1, fun z => by
      rcases z with z | z | z
      · exact h2 (.inl z)
      · exact h2 (.inr (.inl z))
      · exact m (.inr (.inr z))⟩
  refs := e.refs
  len := e.len
  P := e.P
  O := rfl
  prot := fun a ha => by
    rcases ha with z | z
    · exact e.prot a (.inl z)
    · obtain ⟨ys, q⟩ := ow a z
      obtain ⟨i, hi⟩ := List.getElem?_of_mem z
      rw [q]
      exact (e.keep a _ q (own_ice k hi)).1
end
/-! ### values without lists of their own -/
mutual
def flat : VV → Bool
  | .lst _ => false
  | .rol xs => flats xs
  | .dct ks vs => flats ks && flats vs
  | .dtt _ vs => flats vs
  | .ktu xs => flats xs
  | .ins _ fs => flats fs
  | .tup xs => flats xs
  | _ => true
def flats : List VV → Bool
  | [] => true
  | x :: xs => flat x && flats xs
end
def flatsO : List (Option VV) → Bool
  | [] => true
  | none :: r => flatsO r
  | some x :: r => flat x && flatsO r
def flatO : VO → Bool
  | .lst xs => flats xs
  | .dead => true
  | .tbl _ _ => true
  | .dtt _ vs => flats vs
  | .dct ks vs => flats ks && flats vs
  | .ins _ _ vs => flatsO vs
  | .sub _ => true
section
variable {K : PySem.W.Frag} {g : Gx} {w w1 : Wd} {H H1 : Hp} {h h1 : VH} {G : Nat → Addr}
/-- what is no list of one's own is not thawed -/
abbrev NoTh (w w1 : Wd) (H1 : Hp) : Prop := ∀ a u, H1 a = some u → (∀ ys, u ≠ .lst ys) → ¬ w1.mut a → ¬ (w1.thaw w).mut a
mutual
theorem flat_thaw (no : NoTh w w1 H1) : ∀ (v : VV) (y : V), flat v = true → RV K G w1 H1 v y → RV K G (w1.thaw w) H1 v y
  | .non, _, _, r => by simp only [RV] at r ⊢; exact r
  | .bl _, _, _, r => by simp only [RV] at r ⊢; exact r
  | .int _, _, _, r => by simp only [RV] at r ⊢; exact r
  | .str _, _, _, r => by simp only [RV] at r ⊢; exact r
  | .ty _, _, _, r => by simp only [RV] at r ⊢; exact r
  | .adr _, _, _, r => by simp only [RV] at r ⊢; exact r
  | .ref _, _, _, r => by simp only [RV] at r ⊢; exact r
  | .tup xs, _, f, r => by
    simp only [flat] at f
    simp only [RV] at r ⊢
    obtain ⟨a, ys, e, q, r⟩ := r
    exact ⟨a, ys, e, ⟨q.1, no a _ q.1 (fun _ z => nomatch z) q.2⟩, flats_thaw no xs ys f r⟩
  | .lst _, _, f, _ => by simp only [flat] at f; cases f
  | .rol xs, _, f, r => by
    simp only [flat] at f
    simp only [RV] at r ⊢
    obtain ⟨a, ys, e, q, r⟩ := r
    exact ⟨a, ys, e, q.imp (fun ⟨o, q1, q2⟩ => ⟨o, q1, no a _ q1 (fun _ z => nomatch z) q2⟩) id, flats_thaw no xs ys f r⟩
  | .dct ks vs, _, f, r => by
    simp only [flat, Bool.and_eq_true] at f
    simp only [RV] at r ⊢
    obtain ⟨a, kvs, e, ⟨o, q1, q2⟩, r1, r2⟩ := r
    exact ⟨a, kvs, e, ⟨o, q1, no a _ q1 (fun _ z => nomatch z) q2⟩, flats_thaw no ks _ f.1 r1, flats_thaw no vs _ f.2 r2⟩
  | .dtt ks vs, _, f, r => by
    simp only [flat] at f
    simp only [RV] at r ⊢
    obtain ⟨a, kvs, e, ⟨o, q1, q2⟩, r1, r2⟩ := r
    exact ⟨a, kvs, e, ⟨o, q1, no a _ q1 (fun _ z => nomatch z) q2⟩, r1, flats_thaw no vs _ f r2⟩
  | .ktu xs, _, f, r => by
    simp only [flat] at f
    simp only [RV] at r ⊢
    obtain ⟨a, ys, e, q, r⟩ := r
    exact ⟨a, ys, e, q.imp id (fun ⟨o, q1, q2, q3⟩ => ⟨o, q1, q2, no a _ q1 (fun _ z => nomatch z) q3⟩), flats_thaw no xs ys f r⟩
  | .ins _ fs, _, f, r => by
    simp only [flat] at f
    simp only [RV] at r ⊢
    obtain ⟨a, vs, e1, ⟨ob, h1, h2, h3⟩, h4⟩ := r
    exact ⟨a, vs, e1, ⟨ob, h1, h2.imp fun c o q m ⟨q2, e⟩ => ⟨q, no c o q (fun _ z => by rw [e] at z; cases z) m⟩, no a _ h1 (fun _ z => nomatch z) h3⟩, flats_thaw no fs vs f h4⟩
theorem flats_thaw (no : NoTh w w1 H1) : ∀ (v : List VV) (y : List V), flats v = true → RVs K G w1 H1 v y → RVs K G (w1.thaw w) H1 v y
  | [], _, _, r => by simp only [RVs] at r ⊢; exact r
  | x :: xs, _, f, r => by
    simp only [flats, Bool.and_eq_true] at f
    simp only [RVs] at r ⊢
    obtain ⟨y, ys, e, r1, r2⟩ := r
    exact ⟨y, ys, e, flat_thaw no x y f.1 r1, flats_thaw no xs ys f.2 r2⟩
end
theorem flatsO_thaw (no : NoTh w w1 H1) : ∀ (v : List (Option VV)) (y : List (Option V)), flatsO v = true → RVo K G w1 H1 v y → RVo K G (w1.thaw w) H1 v y
  | [], _, _, r => by simp only [RVo] at r ⊢; exact r
  | none :: xs, _, f, r => by
    simp only [flatsO] at f
    simp only [RVo] at r ⊢
    obtain ⟨y, ys, e, r2⟩ := r
    exact ⟨y, ys, e, flatsO_thaw no xs ys f r2⟩
  | some x :: xs, _, f, r => by
    simp only [flatsO, Bool.and_eq_true] at f
    simp only [RVo] at r ⊢
    obtain ⟨y, ys, e, r1, r2⟩ := r
    exact ⟨y, ys, e, flat_thaw no x y f.1 r1, flatsO_thaw no xs ys f.2 r2⟩
theorem thaw_no (k : Hk K g.adr w h H) (e : Ext w.ice H w1 H1) (ow : ∀ a, some a ∈ w.O → ∃ ys, H a = some (.lst ys)) : NoTh w w1 H1 := fun a u q hu m z => by
  rcases z with z | z | z
  · exact m (.inl z)
  · exact m (.inr (.inl z))
  · obtain ⟨xs, q2⟩ := ow a z
    obtain ⟨i, hi⟩ := List.getElem?_of_mem z
    rw [(e.keep a _ q2 (own_ice k hi)).1] at q
    cases q
    exact hu _ rfl
theorem thaw_hk (k : Hk K g.adr w h H) (k1 : Hk K g.adr w1 h1 H1) (e : Ext w.ice H w1 H1) (ow : ∀ a, some a ∈ w.O → ∃ ys, H a = some (.lst ys)) (fl : h1.all flatO = true) : Hk K g.adr (w1.thaw w) h1 H1 where
  len := k1.len
  inj := k1.inj
  obj := fun n a hn => by
    obtain ⟨u, h2, h3⟩ := k1.obj n a hn
    refine ⟨u, h2, ?_⟩
    have fu := List.all_eq_true.mp fl u (List.mem_of_getElem? h2)
    cases u with
    | lst xs =>
      obtain ⟨ys, q1, q2⟩ := h3
      exact ⟨ys, q1, flats_thaw (thaw_no k e ow) _ _ fu q2⟩
    | dead => exact h3.elim
    | dtt ks vs =>
      obtain ⟨kvs, q1, q2, q3⟩ := h3
      exact ⟨kvs, q1, q2, flats_thaw (thaw_no k e ow) _ _ fu q3⟩
    | dct ks vs =>
      obtain ⟨kvs, q1, q2, q3⟩ := h3
      obtain ⟨f1, f2⟩ := Bool.and_eq_true_iff.mp (show (flats ks && flats vs) = true from fu)
      exact ⟨kvs, q1, flats_thaw (thaw_no k e ow) _ _ f1 q2, flats_thaw (thaw_no k e ow) _ _ f2 q3⟩
    | ins c m vs =>
      obtain ⟨dx, q1, q2⟩ := h3
      exact ⟨dx, q1, q2.imp id fun ⟨z1, ys, z2, z3⟩ => ⟨z1, ys, z2, flatsO_thaw (thaw_no k e ow) _ _ fu z3⟩⟩
    | sub b =>
      cases b with
      | true => exact h3
      | false => exact h3
    | tbl m q =>
      obtain ⟨q0, ps, q1, q2, q3⟩ := h3
      refine ⟨q0, ps, q1, q2, fun pos cv z => ?_⟩
      obtain ⟨c, z1, z2, z3⟩ := q3 pos cv z
      refine ⟨c, z1, z2, fun y => ?_⟩
      rcases y with y | y | y
      · exact z3 (.inl y)
      · exact z3 (.inr (.inl y))
      · obtain ⟨ys, y2⟩ := ow c y
        obtain ⟨i, hi⟩ := List.getElem?_of_mem y
        have y3 := (e.keep c _ y2 (own_ice k hi)).1
        rw [z2] at y3
        cases y3
  has := k1.has
  prot := fun a ha => by
    rcases ha with z | z
    · exact k1.prot a (.inl z)
    · obtain ⟨ys, q⟩ := ow a z
      obtain ⟨i, hi⟩ := List.getElem?_of_mem z
      obtain ⟨h2, h3⟩ := e.keep a _ q (own_ice k hi)
      exact ⟨by rw [h2]; simp, fun z => h3 (.inl z)⟩
  own := fun a ha z => k.own a (by rw [show (w1.thaw w).P = w.P from e.P] at ha; exact ha) z
  ownI := k.ownI
  spc := fun a o q => by
    have h1 := k1.spc a o q
    cases o with
    | tbl _ => exact h1
    | ext φ =>
      intro y0 y
      rcases y with y | y | y
      · exact h1 y0 (.inl y)
      · exact h1 y0 (.inr (.inl y))
      · obtain ⟨ys, y2⟩ := ow a y
        obtain ⟨i, hi⟩ := List.getElem?_of_mem y
        have y3 := (e.keep a _ y2 (own_ice k hi)).1
        rw [q] at y3
        cases y3
    | tup xs => exact thaw_no k e ow a _ q (fun _ z => nomatch z) h1
    | _ => trivial
theorem RF.ow {sl : Sl} {σ : L2.St} (f : RF K g w H sl σ) : ∀ a, some a ∈ w.O → ∃ ys, H a = some (.lst ys) := fun a ha => by
  obtain ⟨i, hi⟩ := List.getElem?_of_mem ha
  have hl := (List.getElem?_eq_some_iff.mp hi).1
  rw [f.lenO] at hl
  have hs : sl[i]? = some sl[i] := List.getElem?_eq_getElem hl
  cases q : sl[i] with
  | no =>
    rw [q] at hs
    have := f.no i hs
    rw [hi] at this
    cases this
  | val v =>
    rw [q] at hs
    have := (f.val i v hs).1
    rw [hi] at this
    cases this
  | own xs =>
    rw [q] at hs
    obtain ⟨p, ys, h1, _, h3, _⟩ := f.own i xs hs
    rw [hi] at h1
    cases h1
    exact ⟨ys, h3⟩
end

/-! ### statements -/
section
variable (K : PySem.W.Frag) (g : Gx)
def PostS (w : Wd) (H : Hp) (D : Ends) (W : WX) : SOut → Prop
  | .nx sl h => ∀ w' H' σ', ExtS w H w' H' → Hk K g.adr w' h H' → RF K g w' H' sl σ' → D.nx σ' H'
  | .bk sl h => ∀ w' H' σ', ExtS w H w' H' → Hk K g.adr w' h H' → RF K g w' H' sl σ' → D.bk σ' H'
  | .ct sl h => ∀ w' H' σ', ExtS w H w' H' → Hk K g.adr w' h H' → RF K g w' H' sl σ' → D.ct σ' H'
  | .rt v h => ∀ w' H' y, ExtS w H w' H' → Hk K g.adr w' h H' → RV K g.adr w' H' v y → D.rt y H'
  | .exc x sl h => ∀ w' H' σ' cls d, ExtS w H w' H' → Hk K g.adr w' h H' → RF K g w' H' sl σ' → RX K g w' H' x cls d → W cls d σ' H'
  | .bad => False
def tS (m : MS) (W : WX) : TS := fun D σ H => ∃ w sl h, RF K g w H sl σ ∧ Hk K g.adr w h H ∧ PostS K g w H D W (m sl h)
end
abbrev RS (X : Cx) (g : Gx) (W : WX) (st : Stmt) (m : MS) : Prop := PS X st (tS X.K g m W)
abbrev RSs (X : Cx) (g : Gx) (W : WX) (sts : List Stmt) (m : MS) : Prop := PSs X sts (tS X.K g m W)
section
variable {K : PySem.W.Frag} {g : Gx} {w w' w1 : Wd} {H H' H1 : Hp} {h h1 : VH} {sl : Sl} {σ : L2.St} {W : WX} {D D' : Ends}
theorem PostS.mono (e : ExtS w H w' H') : ∀ {r : SOut}, PostS K g w H D W r → PostS K g w' H' D W r
  | .nx sl h, p => fun w2 H2 σ' e2 k r => p w2 H2 σ' (e.trans e2) k r
  | .bk sl h, p => fun w2 H2 σ' e2 k r => p w2 H2 σ' (e.trans e2) k r
  | .ct sl h, p => fun w2 H2 σ' e2 k r => p w2 H2 σ' (e.trans e2) k r
  | .rt v h, p => fun w2 H2 y e2 k r => p w2 H2 y (e.trans e2) k r
  | .exc x sl h, p => fun w2 H2 σ' cls d e2 k f r => p w2 H2 σ' cls d (e.trans e2) k f r
  | .bad, p => p
/-- a first expression, then the rest of a statement -/
theorem seqS {α β : Type} {R : Rel α β} {T : β → Hp → Prop} {m : Sv → VH → Out α} {k : α → VH → SOut} (f : RF K g w H sl σ) (hk : Hk K g.adr w h H) (p : PostS K g w H D W ((m (view sl) h).toS sl k))
    (i : ∀ w1 H1 h1 v y, ExtS w H w1 H1 → RF K g w1 H1 sl σ → Hk K g.adr w1 h1 H1 → R w1 H1 v y → PostS K g w1 H1 D W (k v h1) → T y H1) : tG K g R m W σ H T := by
  refine ⟨w, view sl, h, f.rsl, hk, ?_⟩
  cases e : m (view sl) h with
  | ok v h1 =>
    rw [e] at p
    exact fun w1 H1 y e1 k1 r => i w1 H1 h1 v y e1.toS (f.mono e1) k1 r (PostS.mono e1.toS p)
  | exc x h1 =>
    rw [e] at p
    exact fun w1 H1 cls d e1 k1 r => p w1 H1 σ cls d e1.toS k1 (f.mono e1) r
  | bad =>
    rw [e] at p
    exact p
/-- the same with the own lists standing; what comes of it holds no list -/
def iceM {α : Type} (fl : α → Bool) (m : Sv → VH → Out α) : Sv → VH → Out α := fun sv h => (m sv h).bind fun v h1 => if fl v && h1.all flatO then .ok v h1 else .bad
theorem seqF {α β : Type} {R : Rel α β} {T : β → Hp → Prop} {fl : α → Bool} {m : Sv → VH → Out α} {k : α → VH → SOut} (hR : ∀ w w1 H1 v y, NoTh w w1 H1 → fl v = true → R w1 H1 v y → R (w1.thaw w) H1 v y)
    (f : RF K g w H sl σ) (hk : Hk K g.adr w h H) (p : PostS K g w H D W ((iceM fl m (viewF sl) h).nox.toS sl k))
    (i : ∀ w1 H1 h1 v y, ExtS w H w1 H1 → RF K g w1 H1 sl σ → Hk K g.adr w1 h1 H1 → R w1 H1 v y → PostS K g w1 H1 D W (k v h1) → T y H1) : tG K g R m W σ H T := by
  refine ⟨w.ice, viewF sl, h, f.rslF hk, hk.ice, ?_⟩
  unfold iceM at p
  cases e : m (viewF sl) h with
  | ok v h1 =>
    rw [e] at p
    simp only [Out.bind] at p
    by_cases c : (fl v && h1.all flatO) = true
    · rw [if_pos c] at p
      obtain ⟨c1, c2⟩ := Bool.and_eq_true_iff.mp c
      intro w1 H1 y e1 k1 r
      have e2 := thaw_ext hk e1 f.ow
      exact i _ H1 h1 v y e2.toS (f.mono e2) (thaw_hk hk k1 e1 f.ow c2) (hR w w1 H1 v y (thaw_no hk e1 f.ow) c1 r) (PostS.mono e2.toS p)
    · rw [if_neg c] at p
      exact p.elim
  | exc x h1 =>
    rw [e] at p
    exact p.elim
  | bad =>
    rw [e] at p
    exact p.elim
end
section
variable {X : Cx} {g : Gx} {W : WX} {st : Stmt} {rest : List Stmt} {m m2 : MS} {e : Expr} {me : ME} {pos : Pos}
def skipM : MS := fun sl h => .nx sl h
def seqM (a b : MS) : MS := fun sl h => match a sl h with
  | .nx sl1 h1 => b sl1 h1
  | r => r
theorem rss_nil : RSs X g W [] skipM := pss_imp pss_nil fun D σ H ⟨w, sl, h, f, k, p⟩ => p w H σ (ExtS.refl _ _) k f
theorem rss_cons (h1 : RS X g W st m) (h2 : RSs X g W rest m2) : RSs X g W (st :: rest) (seqM m m2) :=
  pss_imp (pss_cons h1 h2) fun D σ H ⟨w, sl, h, f, k, p⟩ => by
    refine ⟨w, sl, h, f, k, ?_⟩
    unfold seqM at p
    cases e : m sl h with
    | nx sl1 h1 =>
      rw [e] at p
      exact fun w1 H1 σ1 e1 k1 f1 => ⟨w1, sl1, h1, f1, k1, PostS.mono e1 p⟩
    | rt v h1 => rw [e] at p; exact p
    | bk sl1 h1 => rw [e] at p; exact p
    | ct sl1 h1 => rw [e] at p; exact p
    | exc x sl1 h1 => rw [e] at p; exact p
    | bad => rw [e] at p; exact p
theorem rss_one (h1 : RS X g W st m) : RSs X g W [st] m := pss_one h1
theorem rs_pass : RS X g W (.Pass pos) skipM := ps_imp ps_pass fun D σ H ⟨w, sl, h, f, k, p⟩ => p w H σ (ExtS.refl _ _) k f
theorem rs_break : RS X g W (.Break pos) (fun sl h => .bk sl h) := ps_imp ps_break fun D σ H ⟨w, sl, h, f, k, p⟩ => p w H σ (ExtS.refl _ _) k f
theorem rs_continue : RS X g W (.Continue pos) (fun sl h => .ct sl h) := ps_imp ps_continue fun D σ H ⟨w, sl, h, f, k, p⟩ => p w H σ (ExtS.refl _ _) k f
theorem rs_doc {x j pos'} : RS X g W (.Expr (.Constant (.str x) j pos) pos') skipM := ps_imp ps_doc fun D σ H ⟨w, sl, h, f, k, p⟩ => p w H σ (ExtS.refl _ _) k f
/-- what the proof never comes to -/
theorem rs_never : RS X g W st (fun _ _ => .bad) := ps_imp ps_never fun D σ H ⟨w, sl, h, f, k, p⟩ => p
theorem rss_never : RSs X g W rest (fun _ _ => .bad) := pss_imp pss_never fun D σ H ⟨w, sl, h, f, k, p⟩ => p
def dropM (a : ME) : MS := fun sl h => (a (view sl) h).toS sl fun _ h1 => .nx sl h1
theorem rs_expr (he : RE X g W e me) (hs : swapsWith e none pos.line X.env = pure false := by rfl) : RS X g W (.Expr e pos) (dropM me) :=
  ps_imp (ps_expr he hs) fun D σ H ⟨w, sl, h, f, k, p⟩ => seqS f k p fun w1 H1 h1 v y e1 f1 k1 r1 p1 => p1 w1 H1 σ (ExtS.refl _ _) k1 f1
/-- return: the own lists stand from here on -/
def retM (a : ME) : MS := fun sl h => (a (viewF sl) h).toS sl fun v h1 => .rt v h1
theorem ice_toS {K : PySem.W.Frag} {w w1 : Wd} {H H1 : Hp} (e : Ext w.ice H w1 H1) : ExtS w H w1 H1 where
  keep := fun a o q m => e.keep a o q fun z => m ((mut_ice.mp z).elim .inl fun z => .inr (.inl z))
  refs := e.refs
  len := e.len
  P := e.P
  prot := fun a ha => e.prot a (.inl ha)
theorem rs_ret (he : RE X g W e me) (hx : ∀ sv h x h1, me sv h ≠ .exc x h1) : RS X g W (.Return (some e) pos) (retM me) :=
  ps_imp (ps_ret he) fun D σ H ⟨w, sl, h, f, k, p⟩ => by
    refine ⟨w.ice, viewF sl, h, f.rslF k, k.ice, ?_⟩
    unfold retM at p
    cases q : me (viewF sl) h with
    | ok v h1 =>
      rw [q] at p
      exact fun w1 H1 y e1 k1 r => p w1 H1 y (ice_toS (K := X.K) e1) k1 r
    | exc x h1 => exact (hx _ _ _ _ q).elim
    | bad =>
      rw [q] at p
      exact p
/-- return of an expression that reads no own list -/
def retV (a : ME) : MS := fun sl h => (a (view sl) h).toS sl fun v h1 => .rt v h1
theorem rs_retV (he : RE X g W e me) : RS X g W (.Return (some e) pos) (retV me) :=
  ps_imp (ps_ret he) fun D σ H ⟨w, sl, h, f, k, p⟩ => seqS f k p fun w1 H1 h1 v y e1 f1 k1 r1 p1 => p1 w1 H1 y (ExtS.refl _ _) k1 r1
/-- return of an expression that reads own lists and raises nothing -/
def retF (a : ME) : MS := fun sl h => (a (viewF sl) h).nox.toS sl fun v h1 => .rt v h1
theorem rs_retF (he : RE X g W e me) : RS X g W (.Return (some e) pos) (retF me) :=
  ps_imp (ps_ret he) fun D σ H ⟨w, sl, h, f, k, p⟩ => by
    refine ⟨w.ice, viewF sl, h, f.rslF k, k.ice, ?_⟩
    unfold retF at p
    cases q : me (viewF sl) h with
    | ok v h1 =>
      rw [q] at p
      exact fun w1 H1 y e1 k1 r => p w1 H1 y (ice_toS (K := X.K) e1) k1 r
    | exc x h1 =>
      rw [q] at p
      exact p.elim
    | bad =>
      rw [q] at p
      exact p
theorem rs_retN : RS X g W (.Return none pos) (fun _ h => .rt .non h) := ps_imp ps_retN fun D σ H ⟨w, sl, h, f, k, p⟩ => p w H .non (ExtS.refl _ _) k (by simp only [RV])
def ifS (c : MT) (a b : MS) : MS := fun sl h => (c (view sl) h).toS sl fun k h1 => if k then a sl h1 else b sl h1
theorem rs_if {c : Expr} {mc : MT} {as bs : List Stmt} (hc : RT X g W c mc) (ha : RSs X g W as m) (hb : RSs X g W bs m2) : RS X g W (.If c as bs pos) (ifS mc m m2) :=
  ps_imp (ps_if hc ha hb) fun D σ H ⟨w, sl, h, f, k, p⟩ => seqS f k p fun w1 H1 h1 v y e1 f1 k1 r1 p1 => by
    have e : v = y := r1
    subst e
    cases v with
    | true => exact iteT ⟨w1, sl, h1, f1, k1, p1⟩
    | false => exact iteF ⟨w1, sl, h1, f1, k1, p1⟩
end
end Mv
set_option Elab.async false
set_option linter.all false
set_option maxRecDepth 100000
/-! Mv, part G: names set, own lists, loops. -/
namespace Mv
open PySem PySem.Spec PyProof.Rows L2

section
variable {K : PySem.W.Frag} {g : Gx} {w w' w1 : Wd} {H H' H1 : Hp} {h h1 : VH} {sl : Sl} {σ : L2.St} {i : Nat}
def Wd.drop (w : Wd) (i : Nat) : Wd := { w with O := w.O.set i none }
theorem mut_drop {a : Addr} : (w.drop i).mut a → w.mut a := by
  rintro (z | z | z)
  · exact .inl z
  · exact .inr (.inl z)
  · rcases List.mem_or_eq_of_mem_set z with z | z
    · exact .inr (.inr z)
    · cases z
theorem drop_sees : Sees w H (w.drop i) H := ⟨fun a o q m => ⟨q, fun z => m (mut_drop z)⟩, fun _ _ _ q => q, Nat.le_refl _⟩
theorem drop_ext : ExtS w H (w.drop i) H := ⟨(drop_sees (w := w) (H := H) (i := i)).keep, (drop_sees (w := w) (H := H) (i := i)).refs, (drop_sees (w := w) (H := H) (i := i)).len, rfl, fun _ _ => rfl⟩
theorem drop_O {n : Nat} {a : Addr} (e : (w.drop i).O[n]? = some (some a)) : w.O[n]? = some (some a) := by
  unfold Wd.drop at e
  rw [List.getElem?_set] at e
  split at e
  · split at e
    · cases e
    · cases e
  · exact e
theorem Hk.drop (k : Hk K g.adr w h H) : Hk K g.adr (w.drop i) h H where
  len := k.len
  inj := k.inj
  obj := fun n a hn => by
    obtain ⟨u, h1, h3⟩ := k.obj n a hn
    exact ⟨u, h1, RO.mono drop_sees u a (fun z q => q) h3⟩
  has := k.has
  prot := fun a ha => by
    rcases ha with z | z
    · exact k.prot a (.inl z)
    · rcases List.mem_or_eq_of_mem_set z with z | z
      · exact k.prot a (.inr z)
      · cases z
  own := fun a ha z => by
    rcases List.mem_or_eq_of_mem_set z with z | z
    · exact k.own a ha z
    · cases z
  ownI := fun n m a hn hm => k.ownI n m a (drop_O hn) (drop_O hm)
  spc := k.spc.imp fun a => ⟨id, mut_drop⟩
/-- a name's value is set -/
theorem RF.setv (f : RF K g w H sl σ) {v : VV} {y : V} (r : RV K g.adr w H v y) : RF K g (w.drop i) H (sl.set i (.val v)) (σ.set i (some y)) where
  len := by rw [List.length_set, List.length_set]; exact f.len
  lenO := by unfold Wd.drop; rw [List.length_set, List.length_set]; exact f.lenO
  val := fun j u q => by
    have hl := f.len
    have hO := f.lenO
    rw [List.getElem?_set] at q
    by_cases e : i = j
    · subst e
      rw [if_pos rfl] at q
      by_cases hi : i < sl.length
      · rw [if_pos hi] at q
        cases q
        refine ⟨?_, y, ?_, RV.mono drop_sees _ _ r⟩
        · unfold Wd.drop
          rw [List.getElem?_set, if_pos rfl, if_pos (by omega)]
        · rw [List.getElem?_set, if_pos rfl, if_pos (by omega)]
      · rw [if_neg hi] at q
        cases q
    · rw [if_neg e] at q
      obtain ⟨h1, z, h2, h3⟩ := f.val j u q
      refine ⟨?_, z, ?_, RV.mono drop_sees _ _ h3⟩
      · unfold Wd.drop
        rw [List.getElem?_set, if_neg e]
        exact h1
      · rw [List.getElem?_set, if_neg e]
        exact h2
  own := fun j xs q => by
    rw [List.getElem?_set] at q
    by_cases e : i = j
    · subst e
      rw [if_pos rfl] at q
      split at q
      · cases q
      · cases q
    · rw [if_neg e] at q
      obtain ⟨p, ys, h1, h2, h3, h4⟩ := f.own j xs q
      refine ⟨p, ys, ?_, ?_, h3, RVs.mono drop_sees _ _ h4⟩
      · unfold Wd.drop
        rw [List.getElem?_set, if_neg e]
        exact h1
      · rw [List.getElem?_set, if_neg e]
        exact h2
  no := fun j q => by
    rw [List.getElem?_set] at q
    by_cases e : i = j
    · subst e
      rw [if_pos rfl] at q
      split at q
      · cases q
      · cases q
    · rw [if_neg e] at q
      unfold Wd.drop
      rw [List.getElem?_set, if_neg e]
      exact f.no j q
theorem RAsg.mono {K : PySem.W.Frag} {g : Gx} {w w' : Wd} {H H' : Hp} (e : Sees w H w' H') : ∀ {asg : Asg} {ya : List (Nat × V)}, RAsg K g w H asg ya → RAsg K g w' H' asg ya
  | [], _, r => by unfold RAsg at r ⊢; exact r
  | (i, v) :: r, _, h => by
    unfold RAsg at h ⊢
    obtain ⟨y, ys, e1, h1, h2⟩ := h
    exact ⟨y, ys, e1, RV.mono e _ _ h1, RAsg.mono e h2⟩
def setsS : Asg → Sl → Sl
  | [], sl => sl
  | (i, v) :: r, sl => setsS r (sl.set i (.val v))
/-- several at once -/
theorem RF.sets : ∀ {asg : Asg} {ya : List (Nat × V)} {w : Wd} {sl : Sl} {σ : L2.St}, RF K g w H sl σ → Hk K g.adr w h H → RAsg K g w H asg ya → ∃ w1, ExtS w H w1 H ∧ Hk K g.adr w1 h H ∧ RF K g w1 H (setsS asg sl) (setsR ya σ)
  | [], [], w, sl, σ, f, k, r => ⟨w, ExtS.refl _ _, k, f⟩
  | [], _ :: _, w, sl, σ, f, k, r => by simp [RAsg] at r
  | (i, v) :: asg, ya, w, sl, σ, f, k, r => by
    simp only [RAsg] at r
    obtain ⟨y, q, e, r1, r2⟩ := r
    subst e
    have r3 : RAsg K g (w.drop i) H asg q := RAsg.mono drop_sees r2
    obtain ⟨w1, e1, k1, f1⟩ := RF.sets (f.setv (i := i) r1) k.drop r3
    exact ⟨w1, drop_ext.trans e1, k1, f1⟩
end

/-! ### own lists -/
section
variable {K : PySem.W.Frag} {g : Gx} {w w' w1 : Wd} {H H' H1 : Hp} {h h1 : VH} {sl : Sl} {σ : L2.St} {i : Nat} {p : Addr} {o : HO}
def Wd.own (w : Wd) (i : Nat) (p : Addr) : Wd := { w with O := w.O.set i (some p) }
theorem mut_own {a : Addr} : (w.own i p).mut a → w.mut a ∨ a = p := by
  rintro (z | z | z)
  · exact .inl (.inl z)
  · exact .inl (.inr (.inl z))
  · rcases List.mem_or_eq_of_mem_set z with z | z
    · exact .inl (.inr (.inr z))
    · cases z
      exact .inr rfl
theorem own_sees (hp : H p = none) : Sees w H (w.own i p) (upd H p o) where
  keep := fun a u q m => ⟨by rw [upd_ne (ne_of_none q hp)]; exact q, fun z => by
    rcases mut_own z with z | z
    · exact m z
    · subst z
      rw [hp] at q
      cases q⟩
  refs := fun _ _ _ q => q
  len := Nat.le_refl _
theorem own_ext (k : Hk K g.adr w h H) (hp : H p = none) : ExtS w H (w.own i p) (upd H p o) where
  keep := (own_sees hp).keep
  refs := fun _ _ _ q => q
  len := Nat.le_refl _
  P := rfl
  prot := fun a ha => upd_ne fun e => k.live (.inr (.inl ha)) (e ▸ hp)
theorem own_O {n : Nat} {a : Addr} (e : (w.own i p).O[n]? = some (some a)) : (n = i ∧ a = p) ∨ (n ≠ i ∧ w.O[n]? = some (some a)) := by
  unfold Wd.own at e
  rw [List.getElem?_set] at e
  split at e
  · rename_i q
    split at e
    · cases e
      exact .inl ⟨q.symm, rfl⟩
    · cases e
  · rename_i q
    exact .inr ⟨fun z => q z.symm, e⟩
theorem Hk.mkOwn (k : Hk K g.adr w h H) (hp : H p = none) (hd : dat o = true := by rfl) : Hk K g.adr (w.own i p) h (upd H p o) where
  len := k.len
  inj := k.inj
  obj := fun n a hn => by
    obtain ⟨u, h1, h3⟩ := k.obj n a hn
    exact ⟨u, h1, RO.mono (own_sees hp) u a (fun z q => by rw [upd_ne (ne_of_none q hp)]; exact q) h3⟩
  has := k.has
  prot := fun a ha => by
    have old : w.P a ∨ some a ∈ w.O → (upd H p o) a ≠ none ∧ some a ∉ (w.own i p).phi := fun z => by
      obtain ⟨h1, h2⟩ := k.prot a z
      refine ⟨?_, h2⟩
      rw [upd_ne (show a ≠ p from fun e => h1 (by rw [e]; exact hp))]
      exact h1
    rcases ha with z | z
    · exact old (.inl z)
    · rcases List.mem_or_eq_of_mem_set z with z | z
      · exact old (.inr z)
      · cases z
        exact ⟨by rw [upd_same]; simp, fun z => k.live (.inl z) hp⟩
  own := fun a ha z => by
    rcases List.mem_or_eq_of_mem_set z with z | z
    · exact k.own a ha z
    · cases z
      exact k.live (.inr (.inl ha)) hp
  ownI := fun n m a hn hm => by
    rcases own_O hn with ⟨e1, e2⟩ | ⟨e1, e2⟩
    · rcases own_O hm with ⟨e3, e4⟩ | ⟨e3, e4⟩
      · rw [e1, e3]
      · exact absurd hp (e2 ▸ k.live (.inr (.inr (List.mem_of_getElem? e4))))
    · rcases own_O hm with ⟨e3, e4⟩ | ⟨e3, e4⟩
      · exact absurd hp (e4 ▸ k.live (.inr (.inr (List.mem_of_getElem? e2))))
      · exact k.ownI n m a e2 e4
  spc := k.spc.upd hd fun a ne => ⟨id, fun z => (mut_own z).elim id fun e => (ne e).elim⟩
theorem RF.mkOwn (f : RF K g w H sl σ) {xs : List VV} {ys : List V} (hp : H p = none) (r : RVs K g.adr w H xs ys) : RF K g (w.own i p) (upd H p (.lst ys)) (sl.set i (.own xs)) (σ.set i (some (.ref p))) where
  len := by rw [List.length_set, List.length_set]; exact f.len
  lenO := by unfold Wd.own; rw [List.length_set, List.length_set]; exact f.lenO
  val := fun j u q => by
    rw [List.getElem?_set] at q
    by_cases e : i = j
    · subst e
      rw [if_pos rfl] at q
      split at q
      · cases q
      · cases q
    · rw [if_neg e] at q
      obtain ⟨h1, z, h2, h3⟩ := f.val j u q
      refine ⟨?_, z, ?_, RV.mono (own_sees hp) _ _ h3⟩
      · unfold Wd.own
        rw [List.getElem?_set, if_neg e]
        exact h1
      · rw [List.getElem?_set, if_neg e]
        exact h2
  own := fun j zs q => by
    have hl := f.len
    have hO := f.lenO
    rw [List.getElem?_set] at q
    by_cases e : i = j
    · subst e
      rw [if_pos rfl] at q
      by_cases hi : i < sl.length
      · rw [if_pos hi] at q
        cases q
        refine ⟨p, ys, ?_, ?_, upd_same, RVs.mono (own_sees hp) _ _ r⟩
        · unfold Wd.own
          rw [List.getElem?_set, if_pos rfl, if_pos (by omega)]
        · rw [List.getElem?_set, if_pos rfl, if_pos (by omega)]
      · rw [if_neg hi] at q
        cases q
    · rw [if_neg e] at q
      obtain ⟨a, bs, h1, h2, h3, h4⟩ := f.own j zs q
      refine ⟨a, bs, ?_, ?_, ?_, RVs.mono (own_sees hp) _ _ h4⟩
      · unfold Wd.own
        rw [List.getElem?_set, if_neg e]
        exact h1
      · rw [List.getElem?_set, if_neg e]
        exact h2
      · rw [upd_ne (ne_of_none h3 hp)]
        exact h3
  no := fun j q => by
    rw [List.getElem?_set] at q
    by_cases e : i = j
    · subst e
      rw [if_pos rfl] at q
      split at q
      · cases q
      · cases q
    · rw [if_neg e] at q
      unfold Wd.own
      rw [List.getElem?_set, if_neg e]
      exact f.no j q
/-- an own list is written -/
theorem ownset_sees (m : w.mut p) : Sees w H w (upd H p o) where
  keep := fun a u q n => ⟨by rw [upd_ne (show a ≠ p from fun e => n (by rw [e]; exact m))]; exact q, n⟩
  refs := fun _ _ _ q => q
  len := Nat.le_refl _
theorem ownset_ext (k : Hk K g.adr w h H) (ho : w.O[i]? = some (some p)) : ExtS w H w (upd H p o) where
  keep := (ownset_sees (.inr (.inr (List.mem_of_getElem? ho)))).keep
  refs := fun _ _ _ q => q
  len := Nat.le_refl _
  P := rfl
  prot := fun a ha => upd_ne fun e => k.own a ha (e ▸ List.mem_of_getElem? ho)
theorem Hk.ownset (k : Hk K g.adr w h H) (ho : w.O[i]? = some (some p)) (hd : dat o = true := by rfl) : Hk K g.adr w h (upd H p o) where
  len := k.len
  inj := k.inj
  obj := fun n a hn => by
    obtain ⟨u, h1, h3⟩ := k.obj n a hn
    have ne : a ≠ p := fun e => (k.prot p (.inr (List.mem_of_getElem? ho))).2 (e ▸ List.mem_of_getElem? hn)
    exact ⟨u, h1, RO.mono (ownset_sees (.inr (.inr (List.mem_of_getElem? ho)))) u a (fun z q => by rw [upd_ne ne]; exact q) h3⟩
  has := k.has
  prot := fun a ha => by
    obtain ⟨h1, h2⟩ := k.prot a ha
    refine ⟨?_, h2⟩
    by_cases e : a = p
    · rw [e, upd_same]
      simp
    · rw [upd_ne e]
      exact h1
  own := k.own
  ownI := k.ownI
  spc := k.spc.put hd
theorem RF.ownset (f : RF K g w H sl σ) (k : Hk K g.adr w h H) {xs : List VV} {ys : List V} (ho : w.O[i]? = some (some p)) (hs : σ[i]? = some (some (.ref p))) (r : RVs K g.adr w H xs ys) : RF K g w (upd H p (.lst ys)) (sl.set i (.own xs)) σ where
  len := by rw [List.length_set]; exact f.len
  lenO := by rw [List.length_set]; exact f.lenO
  val := fun j u q => by
    rw [List.getElem?_set] at q
    by_cases e : i = j
    · subst e
      rw [if_pos rfl] at q
      split at q
      · cases q
      · cases q
    · rw [if_neg e] at q
      obtain ⟨h1, z, h2, h3⟩ := f.val j u q
      exact ⟨h1, z, h2, RV.mono (ownset_sees (.inr (.inr (List.mem_of_getElem? ho)))) _ _ h3⟩
  own := fun j zs q => by
    have se : Sees w H w (upd H p (.lst ys)) := ownset_sees (.inr (.inr (List.mem_of_getElem? ho)))
    rw [List.getElem?_set] at q
    by_cases e : i = j
    · subst e
      rw [if_pos rfl] at q
      split at q
      · cases q
        exact ⟨p, ys, ho, hs, upd_same, RVs.mono se _ _ r⟩
      · cases q
    · rw [if_neg e] at q
      obtain ⟨a, bs, h1, h2, h3, h4⟩ := f.own j zs q
      exact ⟨a, bs, h1, h2, by rw [upd_ne (show a ≠ p from fun z => e (k.ownI i j p ho (by rw [← z]; exact h1)))]; exact h3, RVs.mono se _ _ h4⟩
  no := fun j q => by
    rw [List.getElem?_set] at q
    by_cases e : i = j
    · subst e
      rw [if_pos rfl] at q
      split at q
      · cases q
      · cases q
    · rw [if_neg e] at q
      exact f.no j q
end

/-! ### rules -/
section
variable {X : Cx} {g : Gx} {W : WX} {st : Stmt} {rest body : List Stmt} {m m2 : MS} {e : Expr} {me : ME} {es : List Expr} {ma : MA} {pos pos' : Pos} {x y z : Str} {i j l : Nat}
def setM (i : Nat) (a : ME) : MS := fun sl h => (a (view sl) h).toS sl fun v h1 => .nx (sl.set i (.val v)) h1
theorem setM_imp {D : Ends} {σ : L2.St} {H : Hp} (t : tS X.K g (setM i me) W D σ H) : tAsg (tG X.K g (relV X.K g) me W) (gName i) D σ H := by
  obtain ⟨w, sl, h, f, k, p⟩ := t
  exact seqS f k p fun w1 H1 h1 v y e1 f1 k1 r1 p1 => p1 (w1.drop i) H1 (σ.set i (some y)) drop_ext k1.drop (f1.setv r1)
theorem rs_set (i : Nat) (hN : X.N.Nodup) (he : RE X g W e me) (hi : X.N[i]? = some x := by rfl) (hx : Loc X.env.scope x := by first | exact Or.inl rfl | exact Or.inr rfl) (hs : swapsWith e (some (.Name x pos')) pos.line X.env = pure false := by rfl)
    (hf : X.fn x = true ∨ X.env.scope.names.lookup x = some .local := by first | exact .inl rfl | exact .inr rfl) : RS X g W (.Assign [.Name x pos'] e pos) (setM i me) :=
  ps_imp (ps_set hN hi hx he hs hf) fun D σ H t => setM_imp t
/-- reads own lists too; what comes holds no list -/
def setF (i : Nat) (a : ME) : MS := fun sl h => (iceM flat a (viewF sl) h).nox.toS sl fun v h1 => .nx (sl.set i (.val v)) h1
theorem flat_rel {K : PySem.W.Frag} (w w1 : Wd) (H1 : Hp) (v : VV) (y : V) (no : NoTh w w1 H1) (fl : flat v = true) (r : relV K g w1 H1 v y) : relV K g (w1.thaw w) H1 v y := flat_thaw no v y fl r
theorem rs_setF (i : Nat) (hN : X.N.Nodup) (he : RE X g W e me) (hi : X.N[i]? = some x := by rfl) (hx : Loc X.env.scope x := by first | exact Or.inl rfl | exact Or.inr rfl) (hs : swapsWith e (some (.Name x pos')) pos.line X.env = pure false := by rfl)
    (hf : X.fn x = true ∨ X.env.scope.names.lookup x = some .local := by first | exact .inl rfl | exact .inr rfl) : RS X g W (.Assign [.Name x pos'] e pos) (setF i me) :=
  ps_imp (ps_set hN hi hx he hs hf) fun D σ H ⟨w, sl, h, f, k, p⟩ => seqF flat_rel f k p fun w1 H1 h1 v y e1 f1 k1 r1 p1 => p1 (w1.drop i) H1 (σ.set i (some y)) drop_ext k1.drop (f1.setv r1)
/-- name = [..], the name's own list -/
def ownM (i : Nat) (a : MA) : MS := fun sl h => (a (view sl) h).toS sl fun vs h1 => if fits vs.length then .nx (sl.set i (.own vs)) h1 else .bad
theorem rs_own (i : Nat) (hN : X.N.Nodup) (ha : RA X g W es ma) (hi : X.N[i]? = some x := by rfl) (hx : Loc X.env.scope x := by first | exact Or.inl rfl | exact Or.inr rfl)
    (hf : X.fn x = true ∨ X.env.scope.names.lookup x = some .local := by first | exact .inl rfl | exact .inr rfl) {pl pn : Pos} (hs : swapsWith (.List es pl) (some (.Name x pn)) pos.line X.env = pure false := by rfl) : RS X g W (.Assign [.Name x pn] (.List es pl) pos) (ownM i ma) :=
  ps_imp (ps_set hN hi hx (pe_lst ha) hs hf) fun D σ H ⟨w, sl, h, f, k, p⟩ => seqS f k p fun w1 H1 h1 v y e1 f1 k1 r1 p1 => by
    split at p1
    · rename_i hf
      exact ⟨by rw [← RVs.length r1]; exact fits_le hf, fun q hq => p1 _ _ _ (own_ext k1 hq) (k1.mkOwn hq) (f1.mkOwn hq r1)⟩
    · exact p1.elim
end
end Mv
set_option Elab.async false
set_option linter.all false
set_option maxRecDepth 100000
/-! Mv, part H: statements that write, loops, defs, calls. -/
namespace Mv
open PySem PySem.Spec PyProof.Rows L2

/-! ### objects of the small heap, written -/
section
variable {K : PySem.W.Frag} {g : Gx} {w : Wd} {H : Hp} {h : VH} {sl : Sl} {σ : L2.St} {n : Nat} {a : Addr} {o : HO}
theorem refset_ext (k : Hk K g.adr w h H) (hn : w.phi[n]? = some (some a)) : ExtS w H w (upd H a o) where
  keep := (ownset_sees (.inl (List.mem_of_getElem? hn))).keep
  refs := fun _ _ _ q => q
  len := Nat.le_refl _
  P := rfl
  prot := fun b hb => upd_ne fun e => (k.prot b (.inl hb)).2 (by rw [e]; exact List.mem_of_getElem? hn)
theorem Hk.refset (k : Hk K g.adr w h H) (hn : w.phi[n]? = some (some a)) {xs : List VV} {ys : List V} (r : RVs K g.adr w H xs ys) : Hk K g.adr w (h.set n (.lst xs)) (upd H a (.lst ys)) where
  len := by rw [List.length_set]; exact k.len
  inj := k.inj
  obj := fun m b hm => by
    have se : Sees w H w (upd H a (.lst ys)) := ownset_sees (.inl (List.mem_of_getElem? hn))
    obtain ⟨u, h1, h3⟩ := k.obj m b hm
    by_cases e : m = n
    · subst e
      rw [hn] at hm
      cases hm
      refine ⟨.lst xs, ?_, ys, upd_same, RVs.mono se _ _ r⟩
      rw [List.getElem?_set_self (List.getElem?_eq_some_iff.mp h1).1]
    · refine ⟨u, by rw [List.getElem?_set_ne (Ne.symm e)]; exact h1, RO.mono se u b (fun z q => ?_) h3⟩
      rw [upd_ne (show b ≠ a from fun z => e (k.inj m n a (by rw [← z]; exact hm) hn))]
      exact q
  has := fun m u hm hu => by
    by_cases e : m = n
    · subst e
      exact ⟨a, hn⟩
    · rw [List.getElem?_set_ne (Ne.symm e)] at hm
      exact k.has m u hm hu
  prot := fun b hb => by
    obtain ⟨h1, h2⟩ := k.prot b hb
    refine ⟨?_, h2⟩
    by_cases e : b = a
    · rw [e, upd_same]
      simp
    · rw [upd_ne e]
      exact h1
  own := k.own
  ownI := k.ownI
  spc := k.spc.put rfl
theorem RF.sees (f : RF K g w H sl σ) (e : Sees w H w (upd H a o)) (hO : ∀ p, some p ∈ w.O → p ≠ a) : RF K g w (upd H a o) sl σ where
  len := f.len
  lenO := f.lenO
  val := fun j u q => by
    obtain ⟨h1, z, h2, h3⟩ := f.val j u q
    exact ⟨h1, z, h2, RV.mono e _ _ h3⟩
  own := fun j zs q => by
    obtain ⟨p, bs, h1, h2, h3, h4⟩ := f.own j zs q
    exact ⟨p, bs, h1, h2, by rw [upd_ne (hO p (List.mem_of_getElem? h1))]; exact h3, RVs.mono e _ _ h4⟩
  no := f.no
theorem RF.refset (f : RF K g w H sl σ) (k : Hk K g.adr w h H) (hn : w.phi[n]? = some (some a)) : RF K g w (upd H a o) sl σ :=
  f.sees (ownset_sees (.inl (List.mem_of_getElem? hn))) fun p hp e => (k.prot p (.inr hp)).2 (by rw [e]; exact List.mem_of_getElem? hn)
end

section
variable {X : Cx} {g : Gx} {W : WX} {st : Stmt} {rest body : List Stmt} {m mb m2 : MS} {e o e2 : Expr} {me mo mi : ME} {es : List Expr} {ma : MA} {pos pos' : Pos} {x y z : Str} {i j l : Nat}
/-- x.append(e) on an own list -/
def appM (i : Nat) (a : MA) : MS := fun sl h => match sl[i]? with
  | some (.own xs) => (a (view sl) h).toS sl fun vs h1 => match vs with
    | [v] => if fits (xs.length + 1) then .nx (sl.set i (.own (xs ++ [v]))) h1 else .bad
    | _ => .bad
  | _ => .bad
theorem rs_app (i : Nat) {apos cpos : Pos} {px : Pos} (ha : RA X g W [e] ma) (hi : X.N[i]? = some x := by rfl) (hv : Vis X.env.scope x := by first | exact Or.inl rfl | exact Or.inr (Or.inl rfl) | exact Or.inr (Or.inr rfl)) (hd : (x == ("__debug__" : Str)) = false := by decide)
    (hcd : (x == ("__classdict__" : Str)) = false := by decide) (hbase : attributeBase (.Name x px) "append" X.env (eval (.Name x px) X.env) = eval (.Name x px) X.env := by rfl)
    (hfew : ((backTo cpos (starEach [e] X.env)).all (fun x => !x.1) && (backToKw cpos (keywordEach [] X.env)).all (fun x => x.1.isSome) && decide (([e] : List Expr).length + ([] : List Keyword).length + (if ([] : List Keyword).isEmpty then 0 else 1) < 30)) = true := by rfl)
    (hline : (apos.endLine == cpos.line) = true := by rfl) (hst : starEach [e] X.env = (false, eval e X.env) :: starEach [] X.env := by rfl) (hplain : (backTo cpos (starEach [] X.env)).any (·.1) = false := by rfl)
    (hs : swapsWith (.Call (.Attribute (.Name x px) "append" apos) [e] [] cpos) none pos.line X.env = pure false := by rfl) :
    RS X g W (.Expr (.Call (.Attribute (.Name x px) "append" apos) [e] [] cpos) pos) (appM i ma) :=
  ps_imp (ps_expr (pe_bm PySem.F.plainAttrs_list PySem.F.slot_list_append PySem.F.type_list_append (fun pins s σ H x xs v us Q => mt_append pins s σ H x xs v us Q) (pe_var hi hv hd hcd) ha hbase hfew hline hst hplain) hs) fun D σ H ⟨w, sl, h, f, k, p⟩ => by
    unfold appM at p
    split at p
    · rename_i xs q
      obtain ⟨a, ys, h1, h2, h3, h4⟩ := f.own i xs q
      refine ⟨_, h2, .inl ⟨rfl, ys, SqL.of h3⟩, ?_⟩
      refine seqS f k p fun w1 H1 h1 vs us e1 f1 k1 r1 p1 => ?_
      split at p1
      · rename_i v
        split at p1
        · rename_i hf
          simp only [relVs, RVs] at r1
          obtain ⟨u, _, e2, r1, rfl⟩ := r1
          obtain ⟨b, bs, h5, h6, h7, h8⟩ := f1.own i xs q
          rw [h2] at h6
          cases h6
          refine ⟨a, bs, u, rfl, e2, h7, ?_, ?_⟩
          · have := fits_le hf
            rw [← h8.length]
            omega
          · refine p1 w1 _ σ (ownset_ext k1 h5) (k1.ownset h5) (f1.ownset k1 h5 h2 (h8.app ?_))
            simp only [RVs]
            exact ⟨_, _, rfl, r1, rfl⟩
        · exact p1.elim
      · exact p1.elim
    · exact p.elim
/-- the same, the argument seen with the own lists standing -/
def appF (i : Nat) (a : MA) : MS := fun sl h => match sl[i]? with
  | some (.own xs) => (iceM flats a (viewF sl) h).nox.toS sl fun vs h1 => match vs with
    | [v] => if fits (xs.length + 1) then .nx (sl.set i (.own (xs ++ [v]))) h1 else .bad
    | _ => .bad
  | _ => .bad
theorem flats_rel {K : PySem.W.Frag} (w w1 : Wd) (H1 : Hp) (v : List VV) (y : List V) (no : NoTh w w1 H1) (fl : flats v = true) (r : relVs K g w1 H1 v y) : relVs K g (w1.thaw w) H1 v y := flats_thaw no v y fl r
theorem rs_appF (i : Nat) {apos cpos : Pos} {px : Pos} (ha : RA X g W [e] ma) (hi : X.N[i]? = some x := by rfl) (hv : Vis X.env.scope x := by first | exact Or.inl rfl | exact Or.inr (Or.inl rfl) | exact Or.inr (Or.inr rfl)) (hd : (x == ("__debug__" : Str)) = false := by decide)
    (hcd : (x == ("__classdict__" : Str)) = false := by decide) (hbase : attributeBase (.Name x px) "append" X.env (eval (.Name x px) X.env) = eval (.Name x px) X.env := by rfl)
    (hfew : ((backTo cpos (starEach [e] X.env)).all (fun x => !x.1) && (backToKw cpos (keywordEach [] X.env)).all (fun x => x.1.isSome) && decide (([e] : List Expr).length + ([] : List Keyword).length + (if ([] : List Keyword).isEmpty then 0 else 1) < 30)) = true := by rfl)
    (hline : (apos.endLine == cpos.line) = true := by rfl) (hst : starEach [e] X.env = (false, eval e X.env) :: starEach [] X.env := by rfl) (hplain : (backTo cpos (starEach [] X.env)).any (·.1) = false := by rfl)
    (hs : swapsWith (.Call (.Attribute (.Name x px) "append" apos) [e] [] cpos) none pos.line X.env = pure false := by rfl) :
    RS X g W (.Expr (.Call (.Attribute (.Name x px) "append" apos) [e] [] cpos) pos) (appF i ma) :=
  ps_imp (ps_expr (pe_bm PySem.F.plainAttrs_list PySem.F.slot_list_append PySem.F.type_list_append (fun pins s σ H x xs v us Q => mt_append pins s σ H x xs v us Q) (pe_var hi hv hd hcd) ha hbase hfew hline hst hplain) hs) fun D σ H ⟨w, sl, h, f, k, p⟩ => by
    unfold appF at p
    split at p
    · rename_i xs q
      obtain ⟨a, ys, h1, h2, h3, h4⟩ := f.own i xs q
      refine ⟨_, h2, .inl ⟨rfl, ys, SqL.of h3⟩, ?_⟩
      refine seqF flats_rel f k p fun w1 H1 h1 vs us e1 f1 k1 r1 p1 => ?_
      split at p1
      · rename_i v
        split at p1
        · rename_i hf
          simp only [relVs, RVs] at r1
          obtain ⟨u, _, e2, r1, rfl⟩ := r1
          obtain ⟨b, bs, h5, h6, h7, h8⟩ := f1.own i xs q
          rw [h2] at h6
          cases h6
          refine ⟨a, bs, u, rfl, e2, h7, ?_, ?_⟩
          · have := fits_le hf
            rw [← h8.length]
            omega
          · refine p1 w1 _ σ (ownset_ext k1 h5) (k1.ownset h5) (f1.ownset k1 h5 h2 (h8.app ?_))
            simp only [RVs]
            exact ⟨_, _, rfl, r1, rfl⟩
        · exact p1.elim
      · exact p1.elim
    · exact p.elim
end
section
variable {X : Cx} {g : Gx} {W : WX} {st : Stmt} {rest body : List Stmt} {m mb m2 : MS} {e o e2 : Expr} {me mo mi : ME} {es : List Expr} {ma : MA} {pos pos' : Pos} {x y z : Str} {i j l : Nat}
theorem seqF0 {K : PySem.W.Frag} {w : Wd} {H : Hp} {σ : L2.St} {sl : Sl} {h : VH} {D : Ends} {α β : Type} {R : Rel α β} {T : β → Hp → Prop} {fl : α → Bool} {m : Sv → VH → Out α} {k : α → VH → SOut}
    (f : RF K g w H sl σ) (hk : Hk K g.adr w h H) (p : PostS K g w H D W ((iceM fl m (viewF sl) h).nox.toS sl k))
    (i : ∀ w1 H1 h1 v y, ExtS w H (w1.thaw w) H1 → RF K g (w1.thaw w) H1 sl σ → Hk K g.adr (w1.thaw w) h1 H1 → NoTh w w1 H1 → fl v = true → R w1 H1 v y → PostS K g (w1.thaw w) H1 D W (k v h1) → T y H1) : tG K g R m W σ H T := by
  refine ⟨w.ice, viewF sl, h, f.rslF hk, hk.ice, ?_⟩
  unfold iceM at p
  cases e : m (viewF sl) h with
  | ok v h1 =>
    rw [e] at p
    simp only [Out.bind] at p
    by_cases c : (fl v && h1.all flatO) = true
    · rw [if_pos c] at p
      obtain ⟨c1, c2⟩ := Bool.and_eq_true_iff.mp c
      intro w1 H1 y e1 k1 r
      have e2 := thaw_ext hk e1 f.ow
      exact i w1 H1 h1 v y e2.toS (f.mono e2) (thaw_hk hk k1 e1 f.ow c2) (thaw_no hk e1 f.ow) c1 r (PostS.mono e2.toS p)
    · rw [if_neg c] at p
      exact p.elim
  | exc x h1 =>
    rw [e] at p
    exact p.elim
  | bad =>
    rw [e] at p
    exact p.elim
/-- x.extend([..]) on an own list -/
def flX (vs : List VV) : Bool := match vs with
  | [.lst zs] => flats zs
  | _ => false
def extF (i : Nat) (a : MA) : MS := fun sl h => match sl[i]? with
  | some (.own xs) => (iceM flX a (viewF sl) h).nox.toS sl fun vs h1 => match vs with
    | [.lst zs] => if fits (xs.length + zs.length) then .nx (sl.set i (.own (xs ++ zs))) h1 else .bad
    | _ => .bad
  | _ => .bad
theorem rs_ext (i : Nat) {apos cpos : Pos} {px : Pos} (ha : RA X g W [e] ma) (hi : X.N[i]? = some x := by rfl) (hv : Vis X.env.scope x := by first | exact Or.inl rfl | exact Or.inr (Or.inl rfl) | exact Or.inr (Or.inr rfl)) (hd : (x == ("__debug__" : Str)) = false := by decide)
    (hcd : (x == ("__classdict__" : Str)) = false := by decide) (hbase : attributeBase (.Name x px) "extend" X.env (eval (.Name x px) X.env) = eval (.Name x px) X.env := by rfl)
    (hfew : ((backTo cpos (starEach [e] X.env)).all (fun x => !x.1) && (backToKw cpos (keywordEach [] X.env)).all (fun x => x.1.isSome) && decide (([e] : List Expr).length + ([] : List Keyword).length + (if ([] : List Keyword).isEmpty then 0 else 1) < 30)) = true := by rfl)
    (hline : (apos.endLine == cpos.line) = true := by rfl) (hst : starEach [e] X.env = (false, eval e X.env) :: starEach [] X.env := by rfl) (hplain : (backTo cpos (starEach [] X.env)).any (·.1) = false := by rfl)
    (hs : swapsWith (.Call (.Attribute (.Name x px) "extend" apos) [e] [] cpos) none pos.line X.env = pure false := by rfl) :
    RS X g W (.Expr (.Call (.Attribute (.Name x px) "extend" apos) [e] [] cpos) pos) (extF i ma) :=
  ps_imp (ps_expr (pe_bm PySem.F.plainAttrs_list PySem.F.slot_list_extend PySem.F.type_list_extend (fun pins s σ H x xs v us Q => mt_extend pins s σ H x xs v us Q) (pe_var hi hv hd hcd) ha hbase hfew hline hst hplain) hs) fun D σ H ⟨w, sl, h, f, k, p⟩ => by
    unfold extF at p
    split at p
    · rename_i xs q
      obtain ⟨a, ys, h1, h2, h3, h4⟩ := f.own i xs q
      refine ⟨_, h2, .inl ⟨rfl, ys, SqL.of h3⟩, ?_⟩
      refine seqF0 f k p fun w1 H1 h1 vs us e1 f1 k1 no fl r1 p1 => ?_
      split at p1
      · rename_i zs
        split at p1
        · rename_i hf
          simp only [relVs, RVs, RV] at r1
          obtain ⟨_, _, e2, ⟨b, us, rfl, hb, r1⟩, rfl⟩ := r1
          simp only [flX] at fl
          have r2 := flats_thaw no zs us fl r1
          obtain ⟨c, bs, h5, h6, h7, h8⟩ := f1.own i xs q
          rw [h2] at h6
          cases h6
          refine ⟨a, b, bs, us, rfl, e2, h7, hb.1, ?_, ?_⟩
          · rw [← h8.length, ← r2.length]
            exact fits_le hf
          · exact p1 _ _ σ (ownset_ext k1 h5) (k1.ownset h5) (f1.ownset k1 h5 h2 (h8.app r2))
        · exact p1.elim
      · exact p1.elim
    · exact p.elim
/-- o[i] = v, an object of the small heap -/
def setIxM (mo mi me : ME) : MS := fun sl h => (me (view sl) h).toS sl fun v h1 => (mo (view sl) h1).toS sl fun o h2 => (mi (view sl) h2).toS sl fun i h3 => match o, i with
  | .ref n, .int k => (match h3[n]? with
    | some (.lst xs) => (match ixN xs.length k with
      | some j => .nx sl (h3.set n (.lst (xs.set j v)))
      | none => .bad)
    | _ => .bad)
  | _, _ => .bad
theorem rs_setIx {ip : Pos} (he : RE X g W e me) (ho : RE X g W o mo) (hi : RE X g W e2 mi)
    (ha : ∀ v, assign (.Subscript o e2 ip) X.env v = (do
      let ov ← holding [v] (eval o X.env)
      let iv ← holding [v, ov] (eval e2 X.env)
      standAt ip
      holding [v, ov, iv] (setItem ov iv v)
      release [v, ov, iv] []) := by intro _; rfl)
    (hs : swapsWithSole [.Subscript o e2 ip] e pos.line X.env = pure false := by rfl) (hw : swappedStores [.Subscript o e2 ip] e X.env = pure none := by rfl)
    (h1 : (assignEach [.Subscript o e2 ip] X.env).map (·.2) = [assign (.Subscript o e2 ip) X.env] := by rfl) : RS X g W (.Assign [.Subscript o e2 ip] e pos) (setIxM mo mi me) :=
  ps_imp (ps_asg he (pg_sub ho hi set_list ha) hs hw h1) fun D σ H ⟨w, sl, h, f, k, p⟩ => by
    refine seqS f k p fun w1 H1 h1 v y e1 f1 k1 r1 p1 => ?_
    refine seqS f1 k1 p1 fun w2 H2 h2 v2 y2 e2 f2 k2 r2 p2 => ?_
    refine seqS f2 k2 p2 fun w3 H3 h3 v3 y3 e3 f3 k3 r3 p3 => ?_
    have r1' := RV.mono (e2.trans e3).sees _ _ r1
    have r2' := RV.mono e3.sees _ _ r2
    split at p3
    · rename_i n kk
      split at p3
      · rename_i xs eh
        split at p3
        · rename_i jj ej
          obtain ⟨a, ys, rfl, hn, ha, rx⟩ := ref_get k3 r2' eh
          have e4 : y3 = .int kk := by simpa only [relV, RV] using r3
          refine ⟨a, ys, kk, jj, rfl, e4, ha, by rw [← rx.length]; exact ej, ?_⟩
          exact p3 w3 _ σ (refset_ext k3 hn) (k3.refset hn (RVs.set jj rx r1')) (f3.refset k3 hn)
        · exact p3.elim
      · exact p3.elim
    · exact p3.elim
/-- x[i] = v on an own list -/
def setIxO (l : Nat) (mi me : ME) : MS := fun sl h => match sl[l]? with
  | some (.own xs) => (me (view sl) h).toS sl fun v h1 => (mi (view sl) h1).toS sl fun i h3 => match i with
    | .int k => (match ixN xs.length k with
      | some j => .nx (sl.set l (.own (xs.set j v))) h3
      | none => .bad)
    | _ => .bad
  | _ => .bad
theorem rs_setIxO (l : Nat) {ip px : Pos} (he : RE X g W e me) (hi : RE X g W e2 mi) (hl : X.N[l]? = some x := by rfl) (hv : Vis X.env.scope x := by first | exact Or.inl rfl | exact Or.inr (Or.inl rfl) | exact Or.inr (Or.inr rfl)) (hd : (x == ("__debug__" : Str)) = false := by decide)
    (hcd : (x == ("__classdict__" : Str)) = false := by decide) 
    (ha : ∀ v, assign (.Subscript (.Name x px) e2 ip) X.env v = (do
      let ov ← holding [v] (eval (.Name x px) X.env)
      let iv ← holding [v, ov] (eval e2 X.env)
      standAt ip
      holding [v, ov, iv] (setItem ov iv v)
      release [v, ov, iv] []) := by intro _; rfl)
    (hs : swapsWithSole [.Subscript (.Name x px) e2 ip] e pos.line X.env = pure false := by rfl) (hw : swappedStores [.Subscript (.Name x px) e2 ip] e X.env = pure none := by rfl)
    (h1 : (assignEach [.Subscript (.Name x px) e2 ip] X.env).map (·.2) = [assign (.Subscript (.Name x px) e2 ip) X.env] := by rfl) : RS X g W (.Assign [.Subscript (.Name x px) e2 ip] e pos) (setIxO l mi me) :=
  ps_imp (ps_asg he (pg_sub (pe_var hl hv hd hcd) hi set_list ha) hs hw h1) fun D σ H ⟨w, sl, h, f, k, p⟩ => by
    unfold setIxO at p
    split at p
    · rename_i xs q
      refine seqS f k p fun w1 H1 h1 v y e1 f1 k1 r1 p1 => ?_
      obtain ⟨a, ys, h1, h2, h3, h4⟩ := f1.own l xs q
      refine ⟨_, h2, ?_⟩
      refine seqS f1 k1 p1 fun w3 H3 h3 v3 y3 e3 f3 k3 r3 p3 => ?_
      split at p3
      · rename_i kk
        split at p3
        · rename_i jj ej
          obtain ⟨b, bs, h5, h6, h7, h8⟩ := f3.own l xs q
          rw [h2] at h6
          cases h6
          have e4 : y3 = .int kk := by simpa only [relV, RV] using r3
          refine ⟨a, bs, kk, jj, rfl, e4, h7, by rw [← h8.length]; exact ej, ?_⟩
          exact p3 w3 _ σ (ownset_ext k3 h5) (k3.ownset h5) (f3.ownset k3 h5 h2 (RVs.set jj h8 (RV.mono e3.sees _ _ r1)))
        · exact p3.elim
      · exact p3.elim
    · exact p.elim
/-- name op= e, ints -/
def augM (i : Nat) (f : Int → Int → Int) (a : ME) : MS := fun sl h => match sl[i]? with
  | some (.val (.int m)) => (a (view sl) h).toS sl fun v h1 => match v with
    | .int n => .nx (sl.set i (.val (.int (f m n)))) h1
    | _ => .bad
  | _ => .bad
theorem rs_aug (i : Nat) {op : Operator} {ff : Int → Int → Int} (ho : PIp X op (ipI ff)) (hN : X.N.Nodup) (he : RE X g W e me) (hi : X.N[i]? = some x := by rfl) (hx : Loc X.env.scope x := by first | exact Or.inl rfl | exact Or.inr rfl)
    (hf : X.fn x = true ∨ X.env.scope.names.lookup x = some .local := by first | exact .inl rfl | exact .inr rfl) : RS X g W (.AugAssign (.Name x pos') op e pos) (augM i ff me) :=
  ps_imp (ps_aug hN hi hx he ho hf) fun D σ H ⟨w, sl, h, f, k, p⟩ => by
    unfold augM at p
    split at p
    · rename_i m q
      obtain ⟨_, y, h2, h3⟩ := f.val i _ q
      refine ⟨y, h2, ?_⟩
      refine seqS f k p fun w1 H1 h1 v z e1 f1 k1 r1 p1 => ?_
      split at p1
      · rename_i n
        have e2 : y = .int m := by simpa only [RV] using h3
        have e3 : z = .int n := by simpa only [relV, RV] using r1
        exact ⟨m, n, e2, e3, p1 (w1.drop i) H1 _ drop_ext k1.drop (f1.setv (by simp only [RV]))⟩
      · exact p1.elim
    · exact p.elim
/-- a, b = x, y -/
def parM (i j : Nat) (a : MA) : MS := fun sl h => (a (view sl) h).toS sl fun vs h1 => match vs with
  | [v, u] => .nx ((sl.set i (.val v)).set j (.val u)) h1
  | _ => .bad
theorem rs_par (i j : Nat) {a b : Expr} {px py pt : Pos} {kt k2 pt2} (hc : X.calm = true) (hN : X.N.Nodup) (ha : RA X g W [a, b] ma) (hi : X.N[i]? = some x := by rfl) (hj : X.N[j]? = some y := by rfl) (hij : i ≠ j := by decide)
    (hx : X.env.scope.names.lookup x = some .local := by rfl) (hy : X.env.scope.names.lookup y = some .local := by rfl)
    (hw : swappedStores [.Tuple [.Name x px, .Name y py] kt pt] (.Tuple [a, b] k2 pt2) X.env = pure (some [x, y]) := by rfl)
    (hs : swapsWithSole [.Tuple [.Name x px, .Name y py] kt pt] (.Tuple [a, b] k2 pt2) pos.line X.env = pure false := by rfl) :
    RS X g W (.Assign [.Tuple [.Name x px, .Name y py] kt pt] (.Tuple [a, b] k2 pt2) pos) (parM i j ma) :=
  ps_imp (ps_par hc hN hi hj hij hx hy ha hw hs) fun D σ H ⟨w, sl, h, f, k, p⟩ => by
    refine seqS f k p fun w1 H1 h1 vs us e1 f1 k1 r1 p1 => ?_
    split at p1
    · rename_i v u
      simp only [relVs, RVs] at r1
      obtain ⟨y1, _, rfl, r1, y2, _, rfl, r2, rfl⟩ := r1
      exact ⟨y1, y2, rfl, p1 ((w1.drop i).drop j) H1 _ (drop_ext.trans drop_ext) k1.drop.drop ((f1.setv r1).setv (RV.mono drop_sees _ _ r2))⟩
    · exact p1.elim
/-- a, b, c = x, y, z -/
def par3M (i j l : Nat) (a : MA) : MS := fun sl h => (a (view sl) h).toS sl fun vs h1 => match vs with
  | [v, u, t] => .nx (((sl.set i (.val v)).set j (.val u)).set l (.val t)) h1
  | _ => .bad
theorem rs_par3 (i j l : Nat) {a b c : Expr} {px py pz pt : Pos} {kt k2 pt2} (hc : X.calm = true) (hN : X.N.Nodup) (ha : RA X g W [a, b, c] ma) (hi : X.N[i]? = some x := by rfl) (hj : X.N[j]? = some y := by rfl) (hl : X.N[l]? = some z := by rfl) (hij : i ≠ j := by decide) (hil : i ≠ l := by decide) (hjl : j ≠ l := by decide)
    (hx : X.env.scope.names.lookup x = some .local := by rfl) (hy : X.env.scope.names.lookup y = some .local := by rfl) (hz : X.env.scope.names.lookup z = some .local := by rfl)
    (hw : swappedStores [.Tuple [.Name x px, .Name y py, .Name z pz] kt pt] (.Tuple [a, b, c] k2 pt2) X.env = pure (some [x, y, z]) := by rfl)
    (hs : swapsWithSole [.Tuple [.Name x px, .Name y py, .Name z pz] kt pt] (.Tuple [a, b, c] k2 pt2) pos.line X.env = pure false := by rfl) :
    RS X g W (.Assign [.Tuple [.Name x px, .Name y py, .Name z pz] kt pt] (.Tuple [a, b, c] k2 pt2) pos) (par3M i j l ma) :=
  ps_imp (ps_par3 hc hN hi hj hl hij hil hjl hx hy hz ha hw hs) fun D σ H ⟨w, sl, h, f, k, p⟩ => by
    refine seqS f k p fun w1 H1 h1 vs us e1 f1 k1 r1 p1 => ?_
    split at p1
    · rename_i v u t
      simp only [relVs, RVs] at r1
      obtain ⟨y1, _, rfl, r1, y2, _, rfl, r2, y3, _, rfl, r3, rfl⟩ := r1
      exact ⟨y1, y2, y3, rfl, p1 (((w1.drop i).drop j).drop l) H1 _ ((drop_ext.trans drop_ext).trans drop_ext) k1.drop.drop.drop (((f1.setv r1).setv (RV.mono drop_sees _ _ r2)).setv (RV.mono drop_sees _ _ (RV.mono drop_sees _ _ r3)))⟩
    · exact p1.elim
/-- target = e -/
def asgM (mg : MG) (a : ME) : MS := fun sl h => (a (view sl) h).toS sl fun v h1 => match mg v with
  | some asg => .nx (setsS asg sl) h1
  | none => .bad
theorem rs_asg {tg : Expr} {mg : MG} (he : RE X g W e me) (hg : RG X g tg mg) (hs : swapsWithSole [tg] e pos.line X.env = pure false := by rfl) (hw : swappedStores [tg] e X.env = pure none := by rfl)
    (h1 : (assignEach [tg] X.env).map (·.2) = [assign tg X.env] := by rfl) : RS X g W (.Assign [tg] e pos) (asgM mg me) :=
  ps_imp (ps_asg he hg hs hw h1) fun D σ H ⟨w, sl, h, f, k, p⟩ => by
    refine seqS f k p fun w1 H1 h1 v y e1 f1 k1 r1 p1 => ?_
    split at p1
    · rename_i asg q
      refine ⟨w1, h1, v, asg, k1, r1, q, fun ya ra => ?_⟩
      obtain ⟨w2, e2, k2, f2⟩ := RF.sets f1 k1 ra
      exact p1 w2 H1 _ e2 k2 f2
    · exact p1.elim

/-! ### loops -/
def forGo (mg : MG) (body : MS) : List VV → MS
  | [], sl, h => .nx sl h
  | v :: vs, sl, h => match mg v with
    | none => .bad
    | some asg => match body (setsS asg sl) h with
      | .nx sl1 h1 => forGo mg body vs sl1 h1
      | .ct sl1 h1 => forGo mg body vs sl1 h1
      | .bk sl1 h1 => .nx sl1 h1
      | .rt v h1 => .rt v h1
      | .exc x sl1 h1 => .exc x sl1 h1
      | .bad => .bad
def forM (mi : MI) (mg : MG) (body : MS) : MS := fun sl h => (mi (view sl) h).toS sl fun items h1 => forGo mg body items sl h1
theorem rs_for {tg iter : Expr} {mi : MI} {mg : MG} (hp : PassesOwn (model X.prog X.w) X.A X.env X.xe) (hc : X.calm = true) (hi : RI X g W tg iter mi) (hg : RG X g tg mg) (hb : RSs X g W body mb)
    (hs : ∀ x, foldedSetIterable iter X.env x = pure x := by intro _; rfl) : RS X g W (.For tg iter body [] pos) (forM mi mg mb) :=
  ps_imp (ps_for hp hc hi hg hb hs) fun D σ H ⟨w, sl, h, f, k, p⟩ => by
    refine seqS f k p fun w1 H1 h1 items J e1 f1 k1 r1 p1 => ?_
    refine ⟨fun i m σ H => ∃ w sl h, ItOk X.K g w H items J ∧ RF X.K g w H sl σ ∧ Hk X.K g.adr w h H ∧ items.length = i + m ∧ PostS X.K g w H D W (forGo mg mb (items.drop i) sl h), ⟨items.length, w1, sl, h1, r1, f1, k1, by simp, p1⟩, ?_⟩
    rintro i m σ2 H2 ⟨w2, sl2, h2, it, f2, k2, hl, p2⟩
    cases m with
    | zero =>
      refine .inl ⟨by have := it.stop w2 H2 (Sees.refl _ _); rw [hl] at this; exact this, ?_⟩
      rw [List.drop_eq_nil_of_le (by omega)] at p2
      exact p2 w2 H2 σ2 (ExtS.refl _ _) k2 f2
    | succ m =>
      have hi : i < items.length := by omega
      have hd := List.drop_eq_getElem_cons hi
      obtain ⟨go, st⟩ := it.step w2 h2 H2 i items[i] (Sees.refl _ _) k2 (List.getElem?_eq_getElem hi)
      refine .inr ⟨go, fun σ' H' => ∃ m', m' < m + 1 ∧ ∃ w sl h, ItOk X.K g w H' items J ∧ RF X.K g w H' sl σ' ∧ Hk X.K g.adr w h H' ∧ items.length = i + 1 + m' ∧ PostS X.K g w H' D W (forGo mg mb (items.drop (i + 1)) sl h), fun σ' H' q => q, fun x H3 hy => ?_⟩
      obtain ⟨e3, k3, r3⟩ := st x H3 hy
      rw [hd] at p2
      unfold forGo at p2
      split at p2
      · exact p2.elim
      · rename_i asg q
        refine ⟨w2, h2, items[i], asg, k3, r3, q, fun ya ra => ?_⟩
        obtain ⟨w4, e4, k4, f4⟩ := RF.sets (f2.mono e3) k3 ra
        have e24 := e3.toS.trans e4
        refine ⟨w4, _, h2, f4, k4, ?_⟩
        have nxt : ∀ sl1 hh, PostS X.K g w2 H2 D W (forGo mg mb (items.drop (i + 1)) sl1 hh) → ∀ w' H' σ', ExtS w4 H3 w' H' → Hk X.K g.adr w' hh H' → RF X.K g w' H' sl1 σ' →
            ∃ m', m' < m + 1 ∧ ∃ w sl h, ItOk X.K g w H' items J ∧ RF X.K g w H' sl σ' ∧ Hk X.K g.adr w h H' ∧ items.length = i + 1 + m' ∧ PostS X.K g w H' D W (forGo mg mb (items.drop (i + 1)) sl h) := fun sl1 hh pp w' H' σ' e5 k5 f5 =>
          ⟨m, by omega, w', sl1, hh, it.mono (e24.trans e5).sees, f5, k5, by omega, PostS.mono (e24.trans e5) pp⟩
        split at p2
        · rename_i sl1 hh eb
          rw [eb]
          exact nxt sl1 hh p2
        · rename_i sl1 hh eb
          rw [eb]
          exact nxt sl1 hh p2
        · rename_i sl1 hh eb
          rw [eb]
          exact PostS.mono e24 p2
        · rename_i v hh eb
          rw [eb]
          exact PostS.mono e24 p2
        · rename_i x sl1 hh eb
          rw [eb]
          exact PostS.mono e24 p2
        · exact p2.elim
def whileGo (c : MT) (body : MS) : Nat → MS
  | 0, _, _ => .bad
  | n + 1, sl, h => match c (view sl) h with
    | .bad => .bad
    | .exc x h1 => .exc x sl h1
    | .ok false h1 => .nx sl h1
    | .ok true h1 => match body sl h1 with
      | .nx sl1 h2 => whileGo c body n sl1 h2
      | .ct sl1 h2 => whileGo c body n sl1 h2
      | .bk sl1 h2 => .nx sl1 h2
      | .rt v h2 => .rt v h2
      | .exc x sl1 h2 => .exc x sl1 h2
      | .bad => .bad
def whileM (fuel : Sl → VH → Nat) (c : MT) (body : MS) : MS := fun sl h => whileGo c body (fuel sl h) sl h
theorem rs_while (fuel : Sl → VH → Nat) {c : Expr} {mc : MT} (hp : PassesOwn (model X.prog X.w) X.A X.env X.xe) (hc : RT X g W c mc) (hb : RSs X g W body mb) : RS X g W (.While c body [] pos) (whileM fuel mc mb) :=
  ps_imp (ps_while hp hc hb) fun D σ H ⟨w, sl, h, f, k, p⟩ => by
    refine ⟨fun m σ H => ∃ w sl h, RF X.K g w H sl σ ∧ Hk X.K g.adr w h H ∧ PostS X.K g w H D W (whileGo mc mb m sl h), ⟨fuel sl h, w, sl, h, f, k, p⟩, ?_⟩
    rintro m σ2 H2 ⟨w2, sl2, h2, f2, k2, p2⟩
    cases m with
    | zero => exact p2.elim
    | succ m =>
      unfold whileGo at p2
      refine ⟨w2, view sl2, h2, f2.rsl, k2, ?_⟩
      split at p2
      · exact p2.elim
      · rename_i x hh ec
        rw [ec]
        exact fun w3 H3 cls d e3 k3 r3 => p2 w3 H3 σ2 cls d e3.toS k3 (f2.mono e3) r3
      · rename_i hh ec
        rw [ec]
        rintro w3 H3 y e3 k3 r3
        obtain rfl : false = y := r3
        exact iteF (p2 w3 H3 σ2 e3.toS k3 (f2.mono e3))
      · rename_i hh ec
        rw [ec]
        rintro w3 H3 y e3 k3 r3
        obtain rfl : true = y := r3
        refine iteT ⟨fun σ' H' => ∃ m', m' < m + 1 ∧ ∃ w sl h, RF X.K g w H' sl σ' ∧ Hk X.K g.adr w h H' ∧ PostS X.K g w H' D W (whileGo mc mb m' sl h), fun σ' H' q => q, w3, sl2, hh, f2.mono e3, k3, ?_⟩
        have nxt : ∀ sl1 h5, PostS X.K g w2 H2 D W (whileGo mc mb m sl1 h5) → ∀ w' H' σ', ExtS w3 H3 w' H' → Hk X.K g.adr w' h5 H' → RF X.K g w' H' sl1 σ' →
            ∃ m', m' < m + 1 ∧ ∃ w sl h, RF X.K g w H' sl σ' ∧ Hk X.K g.adr w h H' ∧ PostS X.K g w H' D W (whileGo mc mb m' sl h) := fun sl1 h5 pp w' H' σ' e5 k5 f5 =>
          ⟨m, by omega, w', sl1, h5, f5, k5, PostS.mono (e3.toS.trans e5) pp⟩
        split at p2
        · rename_i sl1 h5 eb
          rw [eb]
          exact nxt sl1 h5 p2
        · rename_i sl1 h5 eb
          rw [eb]
          exact nxt sl1 h5 p2
        · rename_i sl1 h5 eb
          rw [eb]
          exact PostS.mono e3.toS p2
        · rename_i v h5 eb
          rw [eb]
          exact PostS.mono e3.toS p2
        · rename_i x sl1 h5 eb
          rw [eb]
          exact PostS.mono e3.toS p2
        · exact p2.elim
end
end Mv
set_option Elab.async false
set_option linter.all false
set_option maxRecDepth 100000
/-! Mv, part I: defs and calls. -/
namespace Mv
open PySem PySem.Spec PyProof.Rows L2

abbrev MF := List VV → VH → Out VV
def startS (n np : Nat) (vs : List VV) : Sl := vs.map .val ++ List.replicate (n - np) .no
def fnM (n np : Nat) (body : MS) : MF := fun vs h => if vs.length = np then (match body (startS n np vs) h with
  | .nx _ h1 => .ok .non h1
  | .rt v h1 => .ok v h1
  | .exc x _ h1 => .exc x h1
  | _ => .bad) else .bad
abbrev WK (E : XK) : WX := fun cls d _ H => E cls d H
def spM (K : PySem.W.Frag) (g : Gx) (mf : MF) : Sp := fun vs H Q E => ∃ w h xs, Hk K g.adr w h H ∧ RVs K g.adr w H xs vs ∧ Post K g (relV K g) w H [] Q (WK E) (mf xs h)
section
variable {K : PySem.W.Frag} {g : Gx} {w w' : Wd} {H H' : Hp} {h h1 : VH} {a : Addr} {m : Nat}
/-- the callee's world -/
def Wd.in (w : Wd) (m : Nat) : Wd := { w with P := fun a => w.P a ∨ some a ∈ w.O, O := List.replicate m none }
theorem no_rep {m : Nat} (z : some a ∈ List.replicate m (none : Option Addr)) : False := by
  have := List.eq_of_mem_replicate z
  cases this
theorem mut_in : (w.in m).mut a ↔ w.mut a := by
  constructor
  · rintro (z | (z | z) | z)
    · exact .inl z
    · exact .inr (.inl z)
    · exact .inr (.inr z)
    · exact (no_rep z).elim
  · rintro (z | z | z)
    · exact .inl z
    · exact .inr (.inl (.inl z))
    · exact .inr (.inl (.inr z))
theorem in_sees : Sees w H (w.in m) H := ⟨fun a o q n => ⟨q, fun z => n (mut_in.mp z)⟩, fun _ _ _ q => q, Nat.le_refl _⟩
theorem Hk.in (k : Hk K g.adr w h H) : Hk K g.adr (w.in m) h H where
  len := k.len
  inj := k.inj
  obj := fun n a hn => by
    obtain ⟨u, h1, h3⟩ := k.obj n a hn
    exact ⟨u, h1, RO.mono in_sees u a (fun z q => q) h3⟩
  has := k.has
  prot := fun a ha => by
    rcases ha with (z | z) | z
    · exact k.prot a (.inl z)
    · exact k.prot a (.inr z)
    · exact (no_rep z).elim
  own := fun a _ z => no_rep z
  ownI := fun n m a hn _ => (no_rep (List.mem_of_getElem? hn)).elim
  spc := k.spc.imp fun a => ⟨id, mut_in.mp⟩
/-- back in the caller's world -/
def Wd.back (w' w : Wd) : Wd := { w' with P := w.P, O := w.O }
theorem mut_back (hP : w'.P = (w.in m).P) (z : (w'.back w).mut a) : w'.mut a := by
  rcases z with z | z | z
  · exact .inl z
  · exact .inr (.inl (by rw [hP]; exact .inl z))
  · exact .inr (.inl (by rw [hP]; exact .inr z))
theorem back_sees (hP : w'.P = (w.in m).P) : Sees w' H (w'.back w) H := ⟨fun a o q n => ⟨q, fun z => n (mut_back hP z)⟩, fun _ _ _ q => q, Nat.le_refl _⟩
theorem back_ext (e : ExtS (w.in m) H w' H') : Ext w H (w'.back w) H' where
  keep := fun a o q n => by
    obtain ⟨h1, h2⟩ := e.keep a o q fun z => n (mut_in.mp z)
    exact ⟨h1, fun z => h2 (mut_back e.P z)⟩
  refs := e.refs
  len := e.len
  P := rfl
  O := rfl
  prot := fun a ha => e.prot a ha
theorem Hk.back (k : Hk K g.adr w h H) (e : ExtS (w.in m) H w' H') (k' : Hk K g.adr w' h1 H') : Hk K g.adr (w'.back w) h1 H' where
  len := k'.len
  inj := k'.inj
  obj := fun n a hn => by
    obtain ⟨u, h1, h3⟩ := k'.obj n a hn
    exact ⟨u, h1, RO.mono (back_sees e.P) u a (fun z q => q) h3⟩
  has := k'.has
  prot := fun a ha => k'.prot a (.inl (by rw [e.P]; exact ha))
  own := k.own
  ownI := k.ownI
  spc := k'.spc.imp fun a => ⟨id, mut_back e.P⟩
theorem RX.back (hP : w'.P = (w.in m).P) {x : Exn} {cls : Value} {d : Option Addr} (r : RX K g w' H x cls d) : RX K g (w'.back w) H x cls d := by
  obtain ⟨e, r⟩ := r
  refine ⟨e, ?_⟩
  cases q : x.pay with
  | none => trivial
  | some v =>
    rw [q] at r
    obtain ⟨dd, y, h1, h2, h3, h4⟩ := r
    exact ⟨dd, y, h1, h2, fun z => h3 (mut_back hP z), RV.mono (back_sees hP) _ _ h4⟩
theorem RF.start {n np : Nat} {xs : List VV} {N : List Str} {vs : List V} (hn : N.length = n) (hl : xs.length = np) (hle : np ≤ n) (r : RVs K g.adr w H xs vs) : RF K g (w.in n) H (startS n np xs) (L2.start N vs) where
  len := by
    unfold startS L2.start
    have := r.length
    simp
    omega
  lenO := by
    unfold startS Wd.in
    simp
    omega
  val := fun i v e => by
    unfold startS at e
    have hi : i < xs.length := by
      apply Classical.byContradiction
      intro c
      rw [List.getElem?_append_right (by simpa using c)] at e
      rw [List.getElem?_replicate] at e
      split at e
      · cases e
      · cases e
    rw [List.getElem?_append_left (by simpa using hi), List.getElem?_map] at e
    cases q : xs[i]? with
    | none => rw [q] at e; cases e
    | some u =>
      rw [q] at e
      cases e
      obtain ⟨y, h1, h2⟩ := r.get i v q
      refine ⟨?_, y, ?_, RV.mono in_sees _ _ h2⟩
      · unfold Wd.in
        rw [List.getElem?_replicate, if_pos (by omega)]
      · unfold L2.start
        rw [List.getElem?_append_left (by rw [List.length_map, ← r.length]; exact hi), List.getElem?_map, h1]
        rfl
  own := fun i zs e => by
    unfold startS at e
    have := List.mem_of_getElem? e
    rcases List.mem_append.mp this with z | z
    · obtain ⟨u, _, e⟩ := List.mem_map.mp z
      cases e
    · have := List.eq_of_mem_replicate z
      cases this
  no := fun i e => by
    have hi := (List.getElem?_eq_some_iff.mp e).1
    unfold startS at hi
    simp at hi
    unfold Wd.in
    rw [List.getElem?_replicate, if_pos (by omega)]
end
/-- a def keeps its mirror -/
theorem fn_ok {P : Program} {w : World} {K : PySem.W.Frag} {mg : Str → Option Value} {base : Heap} {g : Gx} {x qual : Str} {params : Arguments} {body : List Stmt} {scope : Scope} {dvs : List V} {kws : List (Str × V)} {f : Addr} {fd : FuncData} {N ps : List Str} {k n np : Nat} {m : MS}
    (F : FunD K x qual params body scope dvs kws f fd) (S : FnScope N ps scope) (hn : N.length = n) (hp : ps.length = np)
    (hb : ∀ (cdv : Value) (A : Around) (outer : List Env) (s : Shared) (H : Hp) (E : XK), Room k (A.deeper (envOfC qual scope s.heap.objs.size f cdv)) → RSs (cxOf (L2.CX P w) P w K mg base N qual scope f cdv A outer s H E) g (WK E) body m) :
    FnOk P w K mg base (L2.CX P w) (k + 1) f fd ps (spM K g (fnM n np m)) := by
  have hle : np ≤ n := by
    have := S.pre
    rw [← hn, ← hp, ← this, List.length_take]
    omega
  have lenx : ∀ {w H Q} {W : WX} {xs : List VV} {h : VH}, Post K g (relV K g) w H [] Q W (fnM n np m xs h) → xs.length = np := fun {w H Q W xs h} p => by
    unfold fnM at p
    split at p
    · assumption
    · exact p.elim
  refine F.ok S (fun vs H Q E ⟨w1, h, xs, k1, r, p⟩ => by rw [← r.length, hp]; exact lenx p) fun cdv A outer s H vs Q E hr ⟨w1, h, xs, k1, r, p⟩ => ⟨_, hb cdv A outer s H E hr, ?_⟩
  have hl := lenx p
  refine ⟨w1.in n, startS n np xs, h, RF.start hn hl hle r, k1.in, ?_⟩
  unfold fnM at p
  rw [if_pos hl] at p
  split at p
  · rename_i sl1 h1 e
    rw [e]
    exact fun w' H' σ' e1 k2 f1 => p (w'.back w1) H' .non (back_ext e1) (k1.back e1 k2) (by simp only [relV, RV])
  · rename_i v h1 e
    rw [e]
    exact fun w' H' y e1 k2 r1 => p (w'.back w1) H' y (back_ext e1) (k1.back e1 k2) (RV.mono (back_sees e1.P) _ _ r1)
  · rename_i ex sl1 h1 e
    rw [e]
    exact fun w' H' σ' cls d e1 k2 f1 r1 => p (w'.back w1) H' cls d (back_ext e1) (k1.back e1 k2) (r1.back e1.P)
  · exact p.elim
/-- a promise about a mirror that says the same -/
theorem FnOk.eqM {P : Program} {w : World} {K : PySem.W.Frag} {mg : Str → Option Value} {base : Heap} {g : Gx} {f : Addr} {fd : FuncData} {ps : List Str} {k : Nat} {m m' : MF} (F : FnOk P w K mg base (L2.CX P w) k f fd ps (spM K g m)) (e : m' = m) : FnOk P w K mg base (L2.CX P w) k f fd ps (spM K g m') := e ▸ F

/-! ### calls -/
def callF (mf : MF) (a : MA) : ME := fun sv h => (a sv h).bind fun vs h1 => mf vs h1
section
variable {X : Cx} {g : Gx} {W : WX} {e : Expr} {es : List Expr} {ma : MA} {p pos : Pos} {x : Str} {k : Nat} {f : Addr} {fd : FuncData} {ps : List Str} {mf : MF}
theorem re_call (F : FnOk X.prog X.w X.K X.mg X.base (L2.CX X.prog X.w) k f fd ps (spM X.K g mf)) (hr : Room k X.A) (hm : X.mg x = some (.ref f)) (hk : PySem.W.keepIn X.K (.ref f) = true) (hb : Binds X.K fd ps []) (tk : Takes X W) (ha : RA X g W (e :: es) ma) (hg : Gl X x := by rfl)
    (hdb : (x == ("__debug__" : Str)) = false := by decide) (he : starEach (e :: es) X.env = (false, eval e X.env) :: starEach es X.env := by rfl) (hpl : (backTo pos (starEach es X.env)).any (·.1) = false := by rfl) :
    RE X g W (.Call (.Name x p) (e :: es) [] pos) (callF mf ma) :=
  pe_imp (pe_callSD (E := WE W) F hr hg hm hk hb .nil (fun σ => passAt tk σ) ha hdb he hpl) fun σ H Q ⟨w, sv, h, rs, hk, pp⟩ => by
    refine seqG' rs hk pp fun w1 H1 h1 vs y e1 rs1 k1 r1 p1 => ?_
    refine ⟨w1, h1, vs, k1, by rw [List.append_nil]; exact r1, ?_⟩
    cases q : mf vs h1 with
    | ok v h2 => rw [q] at p1; exact p1
    | exc x h2 => rw [q] at p1; exact p1
    | bad => rw [q] at p1; exact p1
end
end Mv
set_option Elab.async false
set_option linter.all false
set_option maxRecDepth 100000
/-! Mv, part J: in, bit_length, {}, sorted of dicts and sets. -/
namespace Mv
open PySem PySem.Spec PyProof.Rows L2

/-! ### in -/
def scV : VV → Option V
  | .non => some .non
  | .bl b => some (.bl b)
  | .int i => some (.int i)
  | .str x => some (.str x)
  | _ => none
def scVs : List VV → Option (List V)
  | [] => some []
  | x :: xs => (scV x).bind fun y => (scVs xs).map fun ys => y :: ys
def seqOf (h : VH) : VV → Option (List VV)
  | .tup xs => some xs
  | .lst xs => some xs
  | .rol xs => some xs
  | .ktu xs => some xs
  | .ref n => (match h[n]? with
    | some (.lst xs) => some xs
    | _ => none)
  | _ => none
section
variable {K : PySem.W.Frag} {g : Gx} {w : Wd} {H : Hp} {h : VH} {G : Nat → Addr}
theorem scV_ok {x : VV} {v y : V} (e : scV x = some v) (r : RV K G w H x y) : y = v ∧ flatV v = true := by
  cases x with
  | non => simp only [scV, Option.some.injEq] at e; simp only [RV] at r; subst e r; exact ⟨rfl, rfl⟩
  | bl b => simp only [scV, Option.some.injEq] at e; simp only [RV] at r; subst e r; exact ⟨rfl, rfl⟩
  | int b => simp only [scV, Option.some.injEq] at e; simp only [RV] at r; subst e r; exact ⟨rfl, rfl⟩
  | str b => simp only [scV, Option.some.injEq] at e; simp only [RV] at r; subst e r; exact ⟨rfl, rfl⟩
  | _ => simp only [scV] at e; cases e
theorem scVs_ok : ∀ {xs : List VV} {vs ys : List V}, scVs xs = some vs → RVs K G w H xs ys → ys = vs ∧ vs.all flatV = true
  | [], _, _, e, r => by
    simp only [scVs, Option.some.injEq] at e
    simp only [RVs] at r
    subst e r
    exact ⟨rfl, rfl⟩
  | x :: xs, _, _, e, r => by
    simp only [scVs, Option.bind_eq_some_iff, Option.map_eq_some_iff] at e
    obtain ⟨v, e1, vs, e2, rfl⟩ := e
    simp only [RVs] at r
    obtain ⟨y, ys, rfl, r1, r2⟩ := r
    obtain ⟨rfl, f1⟩ := scV_ok e1 r1
    obtain ⟨rfl, f2⟩ := scVs_ok e2 r2
    exact ⟨rfl, by rw [List.all_cons, f1, f2]; rfl⟩
theorem seqOf_ok {x : VV} {xs : List VV} {y : V} (hk : Hk K g.adr w h H) (e : seqOf h x = some xs) (r : RV K g.adr w H x y) : ∃ p ys, y = .ref p ∧ (SqL K H p ys ∨ SqT K H p ys) ∧ RVs K g.adr w H xs ys := by
  cases x with
  | tup zs => simp only [seqOf, Option.some.injEq] at e; subst e; obtain ⟨p, ys, e, q, r⟩ := r.tup_get; exact ⟨p, ys, e, .inr q, r⟩
  | lst zs => simp only [seqOf, Option.some.injEq] at e; subst e; obtain ⟨p, ys, e, q, r⟩ := r.lst_get; exact ⟨p, ys, e, .inl (SqL.of q), r⟩
  | rol zs => simp only [seqOf, Option.some.injEq] at e; subst e; obtain ⟨p, ys, e, q, r⟩ := r.rol_get; exact ⟨p, ys, e, .inl q, r⟩
  | ktu zs => simp only [seqOf, Option.some.injEq] at e; subst e; obtain ⟨p, ys, e, q, r⟩ := r.ktu_get; exact ⟨p, ys, e, .inr q, r⟩
  | ref n =>
    simp only [seqOf] at e
    split at e
    · rename_i zs q
      simp only [Option.some.injEq] at e
      subst e
      obtain ⟨a, ys, rfl, _, h2, r2⟩ := ref_get hk r q
      exact ⟨a, ys, rfl, .inl (SqL.of h2), r2⟩
    · cases e
  | _ => simp only [seqOf] at e; cases e
end
/-- x in y, x and the items flat -/
def inF (neg : Bool) : V2 := fun x y h => match scV x with
  | some a => (match (seqOf h y).bind scVs with
    | some bs => .ok (.bl (if neg then !L2.inV a bs else L2.inV a bs)) h
    | none => .bad)
  | none => .bad
theorem inS {K : PySem.W.Frag} {g : Gx} {neg : Bool} : OpS K g (rIn K neg) (inF neg) := by
  intro w h H σ W Q x y vx vy hk rx ry p
  unfold inF at p
  split at p
  · rename_i a ea
    split at p
    · rename_i bs eb
      obtain ⟨ys, e1, e2⟩ := Option.bind_eq_some_iff.mp eb
      obtain ⟨rfl, fa⟩ := scV_ok ea rx
      obtain ⟨q, zs, rfl, hq, rz⟩ := seqOf_ok hk e1 ry
      obtain ⟨rfl, fb⟩ := scVs_ok e2 rz
      exact ⟨q, zs, rfl, hq, fa, fb, post_bl p hk⟩
    · exact p.elim
  · exact p.elim
theorem inMono {K : PySem.W.Frag} {neg : Bool} : ∀ x y H Q Q', (∀ z H', Q z H' → Q' z H') → rIn K neg x y H Q → rIn K neg x y H Q' := fun x y H Q Q' i ⟨p, xs, h1, h2, h3, h4, h5⟩ => ⟨p, xs, h1, h2, h3, h4, i _ _ h5⟩

/-! ### x.bit_length(), {} -/
section
variable {X : Cx} {g : Gx} {W : WX} {o e : Expr} {mo : ME} {ma : MA} {pos apos p p2 p3 : Pos}
def bitsM (a : ME) : ME := fun sv h => (a sv h).bind fun x h1 => match x with
  | .int i => .ok (.int (Builtin.Int.intBits i : Nat)) h1
  | _ => .bad
theorem re_bits (ho : RE X g W o mo) (hbase : attributeBase o "bit_length" X.env (eval o X.env) = eval o X.env := by rfl) (hline : (apos.endLine == pos.line) = true := by rfl) : RE X g W (.Call (.Attribute o "bit_length" apos) [] [] pos) (bitsM mo) :=
  pe_imp (pe_bits ho hbase hline) fun σ H Q ⟨w, sv, h, rs, hk, pp⟩ => seqG' rs hk pp fun w1 H1 h1 v y e1 rs1 k1 r1 p1 => by
    split at p1
    · rename_i i
      exact ⟨i, r1.int_eq, post_int p1 k1⟩
    · exact p1.elim
theorem re_dnil : RE X g W (.Dict [] [] pos) (cM (.dct [] [])) := pe_imp (pe_lock pe_dnewK) fun σ H Q ⟨w, sv, h, rs, hk, pp⟩ q hq => by
  refine ⟨q, _, rfl, upd_same, True.intro, fun od => ?_⟩
  rw [upd_upd]
  have ex : Ext w H w (upd H q (.frz od (.dK []))) := Ext.grow hk hq
  refine pp w _ (.ref q) ex (Hk.grow hk hq) ?_
  simp only [relV, RV]
  exact ⟨q, [], rfl, ⟨od, upd_same, hk.fresh hq⟩, by simp [RVs], by simp [RVs]⟩

/-! ### sorted -/
def insU (x : Int) : List Int → List Int
  | [] => [x]
  | y :: ys => if x < y then x :: y :: ys else if x = y then y :: ys else y :: insU x ys
def sortU : List Int → List Int
  | [] => []
  | x :: xs => insU x (sortU xs)
theorem mem_insU (x z : Int) : ∀ l : List Int, z ∈ insU x l ↔ z = x ∨ z ∈ l
  | [] => by simp [insU]
  | y :: ys => by
    unfold insU
    split
    · simp
    · split
      · rename_i e
        subst e
        simp
      · rw [List.mem_cons, mem_insU x z ys, List.mem_cons]
        constructor
        · rintro (h | h | h)
          · exact .inr (.inl h)
          · exact .inl h
          · exact .inr (.inr h)
        · rintro (h | h | h)
          · exact .inr (.inl h)
          · exact .inl h
          · exact .inr (.inr h)
theorem mem_sortU (z : Int) : ∀ l : List Int, z ∈ sortU l ↔ z ∈ l
  | [] => by simp [sortU]
  | x :: xs => by unfold sortU; rw [mem_insU, mem_sortU z xs, List.mem_cons]
theorem insU_sorted (x : Int) : ∀ l : List Int, l.Pairwise (· < ·) → (insU x l).Pairwise (· < ·)
  | [], _ => by simp [insU]
  | y :: ys, h => by
    rw [List.pairwise_cons] at h
    unfold insU
    split
    · rename_i c
      rw [List.pairwise_cons]
      refine ⟨fun z hz => ?_, by rw [List.pairwise_cons]; exact h⟩
      rcases List.mem_cons.mp hz with e | hz
      · rw [e]; exact c
      · exact Int.lt_trans c (h.1 z hz)
    · split
      · rw [List.pairwise_cons]; exact h
      · rename_i c1 c2
        rw [List.pairwise_cons]
        refine ⟨fun z hz => ?_, insU_sorted x ys h.2⟩
        rcases (mem_insU x z ys).mp hz with e | hz
        · rw [e]; omega
        · exact h.1 z hz
theorem sortU_sorted : ∀ l : List Int, (sortU l).Pairwise (· < ·)
  | [] => by simp [sortU]
  | x :: xs => insU_sorted x _ (sortU_sorted xs)
theorem strict_unique : ∀ {l m : List Int}, l.Pairwise (· < ·) → m.Pairwise (· < ·) → (∀ z, z ∈ l ↔ z ∈ m) → l = m
  | [], [], _, _, _ => rfl
  | [], y :: m, _, _, h => absurd ((h y).mpr List.mem_cons_self) (by simp)
  | x :: l, [], _, _, h => absurd ((h x).mp List.mem_cons_self) (by simp)
  | x :: l, y :: m, hl, hm, h => by
    rw [List.pairwise_cons] at hl hm
    have e : x = y := by
      rcases List.mem_cons.mp ((h x).mp List.mem_cons_self) with e | hx
      · exact e
      · rcases List.mem_cons.mp ((h y).mpr List.mem_cons_self) with e | hy
        · exact e.symm
        · have h1 := hm.1 x hx
          have h2 := hl.1 y hy
          omega
    subst e
    rw [strict_unique hl.2 hm.2 fun z => ?_]
    constructor
    · intro hz
      rcases List.mem_cons.mp ((h z).mp (List.mem_cons_of_mem _ hz)) with e | hz'
      · have := hl.1 z hz
        omega
      · exact hz'
    · intro hz
      rcases List.mem_cons.mp ((h z).mpr (List.mem_cons_of_mem _ hz)) with e | hz'
      · have := hm.1 z hz
        omega
      · exact hz'
/-- set(t), t a tuple of ints -/
def rSetI (K : PySem.W.Frag) (w : World) : List V → Hp → VK → Prop := fun xs H Q => ∃ (a : Addr) (ns : List Int), xs = [.ref a] ∧ SqT K H a (ns.map V.int) ∧ ns.length < 63 ∧ ∀ p c, H p = none → c ≤ ns.length → Q (.ref p) (upd H p (SetO w p (fun j => decide (j ∈ ns)) c))
theorem cr_setI (hc : X.calm = true) : CallR X (.type "set") (rSetI X.K X.w) := by
  intro pins s σ H xs us Q I r h
  obtain ⟨a, ns, rfl, ha, hz, q⟩ := h
  obtain ⟨its, rv, ht, hz2⟩ := I.tuple ha
  rw [Vals.ref1 r]
  refine call_set_tupI ns (I.ok.hd hc) (show s.heap.IsTuple a its.toArray from ht) (by simpa using intsAre_of rv) (by unfold scanBound; omega) fun h' tk c R hcl k => ?_
  refine ⟨.ref s.heap.objs.size, _, I.laid (t' := tk) k (Nat.le_refl _) (setO_new R), rfl, q _ c (I.hok.fresh (Nat.le_refl _)) hcl⟩
def sortedSetF : VF := fun xs h => match xs with
  | [.tup ys] => (match allIt ys with | some ns => if ns.length < 63 then .ok (.lst ((sortU ns).map VV.int)) h else .bad | none => .bad)
  | _ => .bad
theorem re_sortedSet (hc : X.calm = true) (hg : Gl X "sorted") (hm : X.mg "sorted" = none) (hg2 : Gl X "set") (hm2 : X.mg "set" = none) (ha : RA X g W [e] ma) (hs : starEach [e] X.env = (false, eval e X.env) :: starEach [] X.env := by rfl)
    (hs2 : starEach [.Call (.Name "set" p2) [e] [] p3] X.env = (false, eval (.Call (.Name "set" p2) [e] [] p3) X.env) :: starEach [] X.env := by rfl) (hpl : (backTo p3 (starEach [] X.env)).any (·.1) = false := by rfl) (hpl2 : (backTo pos (starEach [] X.env)).any (·.1) = false := by rfl) :
    RE X g W (.Call (.Name "sorted" p) [.Call (.Name "set" p2) [e] [] p3] [] pos) (callM sortedSetF ma) :=
  pe_imp (pe_callB (cr_sortedSet hc) hg hm boot_sorted (pa_cons (pe_callTy (cr_setI hc) hg2 hm2 boot_set ha (by decide) (by decide) hs hpl) pa_nil) (by decide) (by decide) hs2 hpl2) fun σ H Q ⟨w, sv, h, rs, hk, pp⟩ => by
    refine seqG' rs hk pp fun w1 H1 h1 vs ys e1 rs1 k1 r1 p1 => ?_
    unfold sortedSetF at p1
    split at p1
    · split at p1
      · rename_i ns en
        split at p1
        · rename_i hz
          obtain ⟨y, rfl, r0⟩ := RVs.one r1
          obtain ⟨a, zs, rfl, ha, r2⟩ := RV.tup_get r0
          rw [allIt_ok en] at r2
          rw [r2.ints] at ha
          refine ⟨a, ns, rfl, ha, hz, fun q c hq hcl => ?_⟩
          refine ⟨q, _, c, rfl, upd_same, by omega, fun ns' q2 hs hm hl hq2 => ?_⟩
          have e2 : ns' = sortU ns := strict_unique hs (sortU_sorted ns) fun z => by rw [hm z, mem_sortU]; simp
          rw [e2]
          have ex1 : Ext w1 H1 w1 (upd H1 q (SetO X.w q (fun j => decide (j ∈ ns)) c)) := Ext.grow k1 hq
          exact post_newl (Post.mono ex1 p1) (Hk.grow k1 hq) (RVs.of_ints _) hq2
        · exact p1.elim
      · exact p1.elim
    · exact p1.elim
end
end Mv
set_option Elab.async false
set_option linter.all false
set_option maxRecDepth 100000
/-! Mv, part K: dict comprehensions. -/
namespace Mv
open PySem PySem.Spec PyProof.Rows L2

/-! ### keys -/
def keyOf : VV → Option Key
  | .int i => some (.inl i)
  | .str x => some (.inr x)
  | _ => none
def sameK (a b : VV) : Bool := match keyOf a, keyOf b with
  | some x, some y => decide (x = y)
  | _, _ => false
def putL (ks vs : List VV) (k v : VV) : List VV × List VV := if ks.any (fun x => sameK x k) then (ks, List.zipWith (fun x y => if sameK x k then v else y) ks vs) else (ks ++ [k], vs ++ [v])
theorem keyOf_vvK (k : Key) : keyOf (vvK k) = some k := by cases k <;> rfl
theorem of_keyOf {x : VV} {k : Key} (e : keyOf x = some k) : x = vvK k := by
  cases x with
  | int i => simp only [keyOf, Option.some.injEq] at e; subst e; rfl
  | str i => simp only [keyOf, Option.some.injEq] at e; subst e; rfl
  | _ => simp only [keyOf] at e; cases e
theorem sameK_vvK (a b : Key) : sameK (vvK a) (vvK b) = decide (a = b) := by unfold sameK; rw [keyOf_vvK, keyOf_vvK]
section
variable {K : PySem.W.Frag} {G : Nat → Addr} {w : Wd} {H : Hp}
theorem RV.of_kV {x : VV} {k : Key} (r : RV K G w H x (kV k)) : x = vvK k := by
  cases k with
  | inl i =>
    cases x with
    | int j => simp only [RV, kV, V.int.injEq] at r; subst r; rfl
    | tup xs => simp only [RV, kV] at r; obtain ⟨_, _, e, _⟩ := r; cases e
    | ktu xs => simp only [RV, kV] at r; obtain ⟨_, _, e, _⟩ := r; cases e
    | ins c xs => simp only [RV, kV] at r; obtain ⟨_, _, e, _⟩ := r; cases e
    | dtt xs ys => simp only [RV, kV] at r; obtain ⟨_, _, e, _⟩ := r; cases e
    | lst xs => simp only [RV, kV] at r; obtain ⟨_, _, e, _⟩ := r; cases e
    | rol xs => simp only [RV, kV] at r; obtain ⟨_, _, e, _⟩ := r; cases e
    | dct xs ys => simp only [RV, kV] at r; obtain ⟨_, _, e, _⟩ := r; cases e
    | ref n => simp only [RV, kV] at r; obtain ⟨_, e, _⟩ := r; cases e
    | _ => simp [RV, kV] at r
  | inr i =>
    cases x with
    | str j => simp only [RV, kV, V.str.injEq] at r; subst r; rfl
    | tup xs => simp only [RV, kV] at r; obtain ⟨_, _, e, _⟩ := r; cases e
    | ktu xs => simp only [RV, kV] at r; obtain ⟨_, _, e, _⟩ := r; cases e
    | ins c xs => simp only [RV, kV] at r; obtain ⟨_, _, e, _⟩ := r; cases e
    | dtt xs ys => simp only [RV, kV] at r; obtain ⟨_, _, e, _⟩ := r; cases e
    | lst xs => simp only [RV, kV] at r; obtain ⟨_, _, e, _⟩ := r; cases e
    | rol xs => simp only [RV, kV] at r; obtain ⟨_, _, e, _⟩ := r; cases e
    | dct xs ys => simp only [RV, kV] at r; obtain ⟨_, _, e, _⟩ := r; cases e
    | ref n => simp only [RV, kV] at r; obtain ⟨_, e, _⟩ := r; cases e
    | _ => simp [RV, kV] at r
theorem RV.to_kV (k : Key) : RV K G w H (vvK k) (kV k) := by cases k <;> simp only [vvK, kV, RV]
theorem RV.key {x : VV} {y : V} {k : Key} (r : RV K G w H x y) (e : keyOf x = some k) : y = kV k := by
  have e2 := of_keyOf e
  subst e2
  cases k <;> simpa only [vvK, kV, RV] using r
theorem RVs.keys : ∀ {ks : List VV} {kvs : List (Key × V)}, RVs K G w H ks (kvs.map fun p => kV p.1) → ks = kvs.map fun p => vvK p.1
  | [], [], _ => rfl
  | [], _ :: _, r => by simp [RVs] at r
  | x :: xs, [], r => by simp [RVs] at r
  | x :: xs, p :: kvs, r => by
    simp only [List.map_cons, RVs] at r
    obtain ⟨y, r2, e, h1, h2⟩ := r
    injection e with e1 e2
    subst e1 e2
    rw [List.map_cons, ← RVs.keys h2, ← RV.of_kV h1]
theorem RVs.of_keys : ∀ (kvs : List (Key × V)), RVs K G w H (kvs.map fun p => vvK p.1) (kvs.map fun p => kV p.1)
  | [] => by simp [RVs]
  | p :: kvs => by
    simp only [List.map_cons, RVs]
    exact ⟨_, _, rfl, RV.to_kV p.1, RVs.of_keys kvs⟩
theorem any_keys (k : Key) : ∀ kvs : List (Key × V), ((kvs.map fun p => vvK p.1).any fun x => sameK x (vvK k)) = kvs.any fun kv => decide (kv.1 = k)
  | [] => rfl
  | p :: kvs => by rw [List.map_cons, List.any_cons, List.any_cons, any_keys k kvs, sameK_vvK]
theorem put_vals {v : VV} {z : V} (k : Key) (rv : RV K G w H v z) : ∀ {vs : List VV} {kvs : List (Key × V)}, RVs K G w H vs (kvs.map fun p => p.2) →
    RVs K G w H (List.zipWith (fun x y => if sameK x (vvK k) then v else y) (kvs.map fun p => vvK p.1) vs) ((kvs.map fun kv => if kv.1 = k then (kv.1, z) else kv).map fun p => p.2)
  | [], [], _ => by simp [RVs]
  | [], _ :: _, r => by simp [RVs] at r
  | x :: xs, [], r => by simp [RVs] at r
  | x :: xs, p :: kvs, r => by
    simp only [List.map_cons, RVs] at r
    obtain ⟨y, r2, e, h1, h2⟩ := r
    injection e with e1 e2
    subst e1 e2
    simp only [List.map_cons, List.zipWith_cons_cons, RVs]
    refine ⟨_, _, rfl, ?_, put_vals k rv h2⟩
    rw [sameK_vvK]
    by_cases c : p.1 = k
    · rw [if_pos c, if_pos (by simpa using c)]
      exact rv
    · rw [if_neg c, if_neg (by simpa using c)]
      exact h1
/-- putL stands for putK -/
theorem put_ok {ks vs : List VV} {kvs : List (Key × V)} {x v : VV} {z : V} {k : Key} (rk : RVs K G w H ks (kvs.map fun p => kV p.1)) (rs : RVs K G w H vs (kvs.map fun p => p.2)) (e : keyOf x = some k) (rv : RV K G w H v z) :
    RVs K G w H (putL ks vs x v).1 ((putK kvs k z).map fun p => kV p.1) ∧ RVs K G w H (putL ks vs x v).2 ((putK kvs k z).map fun p => p.2) := by
  have e1 := of_keyOf e
  have e2 := rk.keys
  subst e1 e2
  unfold putL putK
  rw [any_keys]
  by_cases c : (kvs.any fun kv => decide (kv.1 = k)) = true
  · rw [if_pos c, if_pos c]
    refine ⟨?_, put_vals k rv rs⟩
    have e3 : (kvs.map fun kv => if kv.1 = k then (kv.1, z) else kv).map (fun p => kV p.1) = kvs.map fun p => kV p.1 := by
      rw [List.map_map]
      refine List.map_congr_left fun p _ => ?_
      show kV (if p.1 = k then (p.1, z) else p).1 = kV p.1
      split <;> rfl
    rw [e3]
    exact rk
  · rw [if_neg c, if_neg c]
    refine ⟨?_, ?_⟩
    · rw [List.map_append]
      refine rk.app ?_
      simp only [List.map_cons, List.map_nil, RVs]
      exact ⟨_, _, rfl, RV.to_kV k, rfl⟩
    · rw [List.map_append]
      refine rs.app ?_
      simp only [List.map_cons, List.map_nil, RVs]
      exact ⟨_, _, rfl, rv, rfl⟩
theorem putK_len (kvs : List (Key × V)) (k : Key) (z : V) : (putK kvs k z).length ≤ kvs.length + 1 := length_putK kvs k z
end

/-! ### the turns -/
abbrev KVs := List VV × List VV
def dcGo (sv : Sv) (mg : MG) (t : MT) (ek ev : ME) : List VV → KVs → VH → Out KVs
  | [], d, h => .ok d h
  | v :: r, d, h => match mg v with
    | none => .bad
    | some asg => (t (setsV asg sv) h).nox.bind fun b h1 => if b then (ek (setsV asg sv) h1).nox.bind fun x h2 => (ev (setsV asg sv) h2).nox.bind fun y h3 => (match keyOf x with
        | some _ => dcGo sv mg t ek ev r (putL d.1 d.2 x y) h3
        | none => .bad) else dcGo sv mg t ek ev r d h1
def dcM (it : MI) (mg : MG) (vs : List Nat) (t : MT) (ek ev : ME) : ME := fun sv h => (it sv h).bind fun items h1 => if fits items.length then (dcGo (wipeS sv vs) mg t ek ev items ([], []) h1).bind fun d h2 => .ok (.dct d.1 d.2) h2 else .bad
section
variable {X : Cx} {g : Gx} {W : WX} {tg iter kx vx : Expr} {ifs : List Expr} {scope : Scope} {pos : Pos} {mi : MI} {mg : MG} {is : List Nat} {mt : MT} {mk mv : ME}
theorem dc_imp {vs : List Nat} (hIn : InIs mg is) (hs : ∀ j ∈ is, j ∈ vs) {σ : L2.St} {H : Hp} {Q : VK} (t : tG X.K g (relV X.K g) (dcM mi mg vs mt mk mv) W σ H Q) :
    tFz (tDc (tG X.K g (relI X.K g) mi W) (tGt X.K g mg) (tG X.K g relB mt W0) (tG X.K g (relV X.K g) mk W0) (tG X.K g (relV X.K g) mv W0) vs) σ H Q := by
  obtain ⟨w, sv, h, rs, hk, p⟩ := t
  refine seqG' rs hk p fun w1 H1 h1 items J e1 rs1 k1 r1 p1 => ?_
  intro D hD
  by_cases hf : fits items.length = true
  case neg => rw [if_neg hf] at p1; exact p1.elim
  rw [if_pos hf] at p1
  have hz := fits_le hf
  refine ⟨fun i m H2 => m = items.length - i ∧ i ≤ items.length ∧ ∃ w2 h2 d kvs, Gd w1 H1 D w2 H2 ∧ Hk X.K g.adr w2 h2 H2 ∧ H2 D = some (.dK kvs) ∧ RVs X.K g.adr w2 H2 d.1 (kvs.map fun p => kV p.1) ∧ RVs X.K g.adr w2 H2 d.2 (kvs.map fun p => p.2) ∧ kvs.length ≤ i ∧
      RSl X.K g w2 H2 (wipeS sv vs) (wipe σ vs) ∧ Post X.K g (relV X.K g) w1 H1 σ Q W ((dcGo (wipeS sv vs) mg mt mk mv (items.drop i) d h2).bind fun d h3 => .ok (.dct d.1 d.2) h3),
    ⟨items.length, by simp, Nat.zero_le _, w1.guard D, h1, ([], []), [], Gd.start k1 hD, guard_hk k1 hD, upd_same, by simp [RVs], by simp [RVs], Nat.le_refl _, (rs1.wipe vs).mono _ _ (guard_sees k1 hD), by simpa using p1⟩, ?_⟩
  rintro i m H2 ⟨rfl, hi, w2, h2, d, kvs, gd, k2, hD2, rk, rv, hl, rs2, p2⟩
  by_cases hlt : i < items.length
  · right
    have hv : items[i]? = some items[i] := List.getElem?_eq_getElem hlt
    generalize items[i] = v at hv
    have hdrop : items.drop i = v :: items.drop (i + 1) := by
      rw [List.drop_eq_getElem_cons hlt]
      congr 1
      rw [List.getElem?_eq_getElem hlt] at hv
      exact Option.some.inj hv
    rw [hdrop] at p2
    simp only [dcGo] at p2
    obtain ⟨go, yl⟩ := r1.step w2 h2 H2 i v gd.sees k2 hv
    refine ⟨go, fun H' => ∃ w3 h3 d kvs, Gd w1 H1 D w3 H' ∧ Hk X.K g.adr w3 h3 H' ∧ H' D = some (.dK kvs) ∧ RVs X.K g.adr w3 H' d.1 (kvs.map fun p => kV p.1) ∧ RVs X.K g.adr w3 H' d.2 (kvs.map fun p => p.2) ∧ kvs.length ≤ i + 1 ∧
      RSl X.K g w3 H' (wipeS sv vs) (wipe σ vs) ∧ Post X.K g (relV X.K g) w1 H1 σ Q W ((dcGo (wipeS sv vs) mg mt mk mv (items.drop (i + 1)) d h3).bind fun d h3 => .ok (.dct d.1 d.2) h3),
      fun H' q => ⟨items.length - (i + 1), by omega, rfl, hlt, q⟩, fun x H3 hy => ?_⟩
    obtain ⟨ex, k3, rx⟩ := yl x H3 hy
    cases em : mg v with
    | none => rw [em] at p2; exact p2.elim
    | some asg =>
      rw [em] at p2
      dsimp only at p2
      refine ⟨w2, h2, v, asg, k3, rx, em, fun ya rya => ?_⟩
      have rs3 := (rs2.mono _ _ ex.sees).sets rya
      refine ⟨wipe_eq (is := is) (setsR_length _ _) hs fun j hj => setsR_ne fun p hp z => ?_, ?_⟩
      · obtain ⟨q, hq, e⟩ := rya.ix p hp
        exact hj (by rw [← z, ← e]; exact hIn v asg em q hq)
      generalize setsV asg (wipeS sv vs) = sv2 at rs3 p2
      generalize setsR ya (wipe σ vs) = σ2 at rs3
      rw [Out.bind_assoc] at p2
      have gd3 := gd.ext ex
      have prD : ∀ {wa : Wd} {Ha : Hp} {wb : Wd} {Hb : Hp}, Gd w1 H1 D wa Ha → Ext wa Ha wb Hb → Hb D = Ha D := fun ga e => e.prot D (.inl (by rw [ga.P]; exact .inr rfl))
      have hD3 : H3 D = some (.dK kvs) := (prD gd ex).trans hD2
      refine ⟨w2, sv2, h2, rs3, k3, ?_⟩
      cases et : mt sv2 h2 with
      | bad => rw [et] at p2; exact p2.elim
      | exc x h4 => rw [et] at p2; exact p2.elim
      | ok b h4 =>
        rw [et] at p2
        simp only [Out.nox, Out.bind] at p2
        intro w4 H4 b' e4 k4 eb
        have eb : b = b' := eb
        subst eb
        have gd4 := gd3.ext e4
        have hD4 := (prD gd3 e4).trans hD3
        have se4 := ex.sees.trans e4.sees
        have rs4 := rs2.mono _ _ se4
        cases b with
        | false =>
          rw [if_neg Bool.false_ne_true] at p2 ⊢
          exact ⟨w4, h4, d, kvs, gd4, k4, hD4, RVs.mono se4 _ _ rk, RVs.mono se4 _ _ rv, Nat.le_succ_of_le hl, rs4, p2⟩
        | true =>
          rw [if_pos rfl] at p2 ⊢
          refine ⟨w4, sv2, h4, rs3.mono _ _ e4.sees, k4, ?_⟩
          cases ee : mk sv2 h4 with
          | bad => rw [ee] at p2; exact p2.elim
          | exc x h5 => rw [ee] at p2; exact p2.elim
          | ok xk h5 =>
            rw [ee] at p2
            simp only [Out.nox, Out.bind] at p2
            intro w5 H5 y e5 k5 ry
            have gd5 := gd4.ext e5
            have hD5 := (prD gd4 e5).trans hD4
            have se5 := se4.trans e5.sees
            refine ⟨w5, sv2, h5, (rs3.mono _ _ e4.sees).mono _ _ e5.sees, k5, ?_⟩
            cases ev : mv sv2 h5 with
            | bad => rw [ev] at p2; exact p2.elim
            | exc x h6 => rw [ev] at p2; exact p2.elim
            | ok xv h6 =>
              rw [ev] at p2
              simp only [Out.nox, Out.bind] at p2
              intro w6 H6 z e6 k6 rz
              have gd6 := gd5.ext e6
              have hD6 := (prD gd5 e6).trans hD5
              have se6 := se5.trans e6.sees
              cases ek : keyOf xk with
              | none => rw [ek] at p2; exact p2.elim
              | some kk =>
                rw [ek] at p2
                dsimp only at p2
                have sg : Sees w6 H6 w6 (upd H6 D (.dK (putK kvs kk z))) := guard_set_sees gd6.P
                obtain ⟨a1, a2⟩ := put_ok (RVs.mono se6 _ _ rk) (RVs.mono se6 _ _ rv) ek rz
                refine ⟨kvs, kk, ry.key ek, hD6, Nat.lt_of_lt_of_le (Nat.lt_of_le_of_lt hl hlt) hz, w6, h6, putL d.1 d.2 xk xv, putK kvs kk z, gd6.set k1 hD, guard_set_hk gd6.P k6, upd_same, RVs.mono sg _ _ a1, RVs.mono sg _ _ a2, ?_, (rs2.mono _ _ se6).mono _ _ sg, p2⟩
                have := putK_len kvs kk z
                omega
  · left
    have e : i = items.length := by omega
    subst e
    refine ⟨r1.stop w2 H2 gd.sees, ?_⟩
    rw [List.drop_length] at p2
    exact fz_dct k1 hD gd k2 hD2 rk rv p2
/-- {k: v for tg in iter if ..} -/
theorem re_dc {own : List (Str × Nat)} (hc : X.calm = true) (hN : X.N.Nodup) (hi : RI X g W tg iter mi) (ok : BlkOk X.N X.env.scope scope own) (his : InIs mg is) (hs : ∀ j ∈ is, j ∈ own.map (·.2))
    (hg : ∀ (s : Shared) (H : Hp) (C : Addr) (cl : List (Str × Addr)) (fp : List Addr), RG (X.blk s H scope (compEnvC scope cl C X.env) fp) g tg mg) (ht : ∀ (s : Shared) (H : Hp) (C : Addr) (cl : List (Str × Addr)) (fp : List Addr), RTs (X.blk s H scope (compEnvC scope cl C X.env) fp) g W0 ifs mt)
    (hk : ∀ (s : Shared) (H : Hp) (C : Addr) (cl : List (Str × Addr)) (fp : List Addr), RE (X.blk s H scope (compEnvC scope cl C X.env) fp) g W0 kx mk)
    (he : ∀ (s : Shared) (H : Hp) (C : Addr) (cl : List (Str × Addr)) (fp : List Addr), RE (X.blk s H scope (compEnvC scope cl C X.env) fp) g W0 vx mv) (hf : ∀ x, foldedSetIterable iter X.env x = pure x := by intro _; rfl) :
    RE X g W (.DictComp kx vx [⟨tg, iter, ifs, 0⟩] scope pos) (dcM mi mg (own.map (·.2)) mt mk mv) :=
  pe_imp (pe_lock (pe_dc hc hN hi ok hg ht hk he hf)) fun σ H Q t => dc_imp his hs t

/-! ### sorted of lists of ints, of dicts -/
def sortedDF : VF := fun xs h => match xs with
  | [.dct ks _] => (match allIt ks with | some ns => if ns.length < 64 then .ok (.lst ((sortI ns).map VV.int)) h else .bad | none => .bad)
  | _ => .bad
abbrev rSortedDI : List V → Hp → VK → Prop := fun xs H Q => ∃ (a : Addr) (kvs : List (Key × V)) (ks : List Int), xs = [.ref a] ∧ Rd H a (.dK kvs) ∧ kvs.map (·.1) = ks.map Sum.inl ∧ ks.length < 64 ∧
    ∀ (ys : List Int) (p : Addr), ys.Perm ks → ys.Pairwise (· ≤ ·) → H p = none → Q (.ref p) (upd H p (.lst (ys.map V.int)))
theorem keys_inl : ∀ {ns : List Int} {kvs : List (Key × V)}, ns.map VV.int = (kvs.map fun p => vvK p.1) → kvs.map (·.1) = ns.map Sum.inl
  | [], [], _ => rfl
  | [], _ :: _, e => by simp at e
  | _ :: _, [], e => by simp at e
  | n :: ns, p :: kvs, e => by
    simp only [List.map_cons, List.cons.injEq] at e ⊢
    refine ⟨?_, keys_inl e.2⟩
    obtain ⟨k, v⟩ := p
    cases k with
    | inl i =>
      have := e.1
      simp only [vvK, VV.int.injEq] at this
      rw [this]
    | inr s => simp [vvK] at e
theorem sortedDS {K : PySem.W.Frag} : CallS K g rSortedDI sortedDF := by
  intro w h H σ W Q xs vs hk r p
  unfold sortedDF at p
  split at p
  · split at p
    · rename_i ns e
      split at p
      · rename_i hz
        obtain ⟨y, rfl, r1⟩ := RVs.one r
        simp only [RV] at r1
        obtain ⟨a, kvs, rfl, ⟨o, ha, _⟩, rk, _⟩ := r1
        have e2 := rk.keys
        rw [allIt_ok e] at e2
        refine ⟨a, kvs, ns, rfl, .inr ⟨o, ha⟩, keys_inl e2, hz, fun ys q hp hs hq => ?_⟩
        have e3 : ys = sortI ns := sorted_unique (hp.trans (sortI_perm ns).symm) hs (sortI_sorted ns)
        rw [e3]
        exact post_newl p hk (RVs.of_ints _) hq
      · exact p.elim
    · exact p.elim
  · exact p.elim
end
end Mv
set_option Elab.async false
set_option linter.all false
set_option maxRecDepth 100000
/-! Mv, part L: names of types, unary minus, is None, lists set to a name on one line. -/
namespace Mv
open PySem PySem.Spec PyProof.Rows L2
section
variable {X : Cx} {g : Gx} {W : WX} {a b : Expr} {ma mb : ME} {pos : Pos} {x : Str}
theorem re_ty (n : BTy) (hg : Gl X x) (hm : X.mg x = none) (hv : bootBuiltins x = some (.type n.name)) (hn : x ≠ "__name__" := by decide) (hd : (x == ("__debug__" : Str)) = false := by decide) : RE X g W (.Name x pos) (cM (.ty n)) :=
  pe_imp (pe_bltn (v := .ty n.name) hg hm hv rfl hn hd) fun σ H Q t => const_imp (fun _ => by simp only [RV]) t
def negM (a : ME) : ME := fun sv h => (a sv h).bind fun x h1 => match x with
  | .int i => .ok (.int (-i)) h1
  | _ => .bad
theorem re_neg (ha : RE X g W a ma) : RE X g W (.UnaryOp .USub a pos) (negM ma) :=
  pe_imp (pe_un un_neg ha) fun σ H Q ⟨w, sv, h, rs, hk, pp⟩ => seqG' rs hk pp fun w1 H1 h1 v y e1 rs1 k1 r1 p1 => by
    split at p1
    · rename_i i
      exact ⟨i, r1.int_eq, post_int p1 k1⟩
    · exact p1.elim
def isNon : VV → Bool
  | .non => true
  | _ => false
theorem isNon_ok {K : PySem.W.Frag} {G : Nat → Addr} {w : Wd} {H : Hp} {x : VV} {y : V} (r : RV K G w H x y) : decide (y = .non) = isNon x := by
  cases x with
  | non => simp only [RV] at r; subst r; rfl
  | tup xs => simp only [RV] at r; obtain ⟨_, _, e, _⟩ := r; subst e; rfl
  | ktu xs => simp only [RV] at r; obtain ⟨_, _, e, _⟩ := r; subst e; rfl
  | lst xs => simp only [RV] at r; obtain ⟨_, _, e, _⟩ := r; subst e; rfl
  | rol xs => simp only [RV] at r; obtain ⟨_, _, e, _⟩ := r; subst e; rfl
  | dct xs ys => simp only [RV] at r; obtain ⟨_, _, e, _⟩ := r; subst e; rfl
  | dtt xs ys => simp only [RV] at r; obtain ⟨_, _, e, _⟩ := r; subst e; rfl
  | ref n => simp only [RV] at r; obtain ⟨_, e, _⟩ := r; subst e; rfl
  | ins c fs => simp only [RV] at r; obtain ⟨_, _, e, _⟩ := r; subst e; rfl
  | _ => simp only [RV] at r; subst r; rfl
def isN (neg : Bool) : V2 := fun x y h => match y with
  | .non => .ok (.bl (if neg then !isNon x else isNon x)) h
  | _ => .bad
theorem isNS {K : PySem.W.Frag} {g : Gx} : OpS K g (fun x y H Q => y = .non ∧ Q (.bl (decide (x = .non))) H) (isN false) := by
  intro w h H σ W Q x y vx vy hk rx ry p
  unfold isN at p
  split at p
  · refine ⟨by simpa only [RV] using ry, ?_⟩
    rw [isNon_ok rx]
    exact post_bl p hk
  · exact p.elim
theorem isNotNS {K : PySem.W.Frag} {g : Gx} : OpS K g (fun x y H Q => y = .non ∧ Q (.bl (!decide (x = .non))) H) (isN true) := by
  intro w h H σ W Q x y vx vy hk rx ry p
  unfold isN at p
  split at p
  · refine ⟨by simpa only [RV] using ry, ?_⟩
    rw [isNon_ok rx]
    exact post_bl p hk
  · exact p.elim
/-- name = [.. for ..] on one line, the name a local -/
theorem rs_setLc (i : Nat) {y : Str} {py spos : Pos} {tg iter elt : Expr} {ifs : List Expr} {scope : Scope} {mi : MI} {mg : MG} {is : List Nat} {mt : MT} {me : ME} {own : List (Str × Nat)} (hc : X.calm = true) (hN : X.N.Nodup) (hi : RI X g W tg iter mi) (ok : BlkOk X.N X.env.scope scope own) (his : InIs mg is) (hs : ∀ j ∈ is, j ∈ own.map (·.2))
    (hg : ∀ (s : Shared) (H : Hp) (C : Addr) (cl : List (Str × Addr)) (fp : List Addr), RG (X.blk s H scope (compEnvC scope cl C X.env) fp) g tg mg) (ht : ∀ (s : Shared) (H : Hp) (C : Addr) (cl : List (Str × Addr)) (fp : List Addr), RTs (X.blk s H scope (compEnvC scope cl C X.env) fp) g W0 ifs mt)
    (he : ∀ (s : Shared) (H : Hp) (C : Addr) (cl : List (Str × Addr)) (fp : List Addr), RE (X.blk s H scope (compEnvC scope cl C X.env) fp) g W0 elt me) (hy : X.N[i]? = some y := by rfl) (hyl : X.env.scope.names.lookup y = some .local := by rfl) 
    (hsw : swapsWith (.ListComp elt [⟨tg, iter, ifs, 0⟩] scope pos) (some (.Name y py)) spos.line X.env = pure true := by first | exact sw_true rfl rfl rfl rfl | rfl) (hf : ∀ x, foldedSetIterable iter X.env x = pure x := by intro _; rfl) :
    RS X g W (.Assign [.Name y py] (.ListComp elt [⟨tg, iter, ifs, 0⟩] scope pos) spos) (setM i (lcM mi mg (own.map (·.2)) mt me)) :=
  ps_imp (ps_setLc (te := tG X.K g (relV X.K g) me W0) (tt := tG X.K g relB mt W0) (g := tGt X.K g mg) hc hN hy hyl hsw hi ok hg ht he hf) fun D σ H t => by
    obtain ⟨w, sl, h, f, k, p⟩ := t
    refine lc_imp his hs (Q := fun x H1 => gName i x σ H1 D.nx) ?_
    exact seqS f k p fun w1 H1 h1 v y e1 f1 k1 r1 p1 => p1 (w1.drop i) H1 (σ.set i (some y)) drop_ext k1.drop (f1.setv r1)
end
end Mv
set_option Elab.async false
set_option linter.all false
set_option maxRecDepth 100000
/-! Mv, part M: what a text's walk leans on. -/
namespace Mv
open PySem PySem.Spec PyProof.Rows L2

theorem takes0 {X : Cx} : Takes X W0 := fun u s' ⟨_, _, _, _, _, _, _, _, _, _, _, _, _, _, _, _, w⟩ => w.elim
theorem Room.u64 {k : Nat} {A : Around} (r : Room k A) : A.units + 64 < cLine := by
  have := r.un
  have e : cLine = 1000 ∨ True := .inr trivial
  omega
theorem Room.u65 {k : Nat} {A : Around} (r : Room k A) : A.units + 65 < cLine := by
  have := r.un
  omega
/-- a def of the text keeps its mirror, and how it is called -/
def OkF (P : Program) (w : World) (K : PySem.W.Frag) (mg : Str → Option Value) (g : Gx) (k : Nat) (f : Addr) (ps : List Str) (mf : MF) : Prop :=
  ∃ fd, (∀ base : Heap, FnOk P w K mg base (L2.CX P w) k f fd ps (spM K g mf)) ∧ Binds K fd ps [] ∧ PySem.W.keepIn K (.ref f) = true ∧ ∀ (s : Shared) (us : List Value), us.length = ps.length → BindsTo s fd ⟨us, []⟩ (ps.zip us)
theorem fn_bad {P : Program} {w : World} {K : PySem.W.Frag} {mg : Str → Option Value} {base : Heap} {g : Gx} {k : Nat} {f : Addr} {fd : FuncData} {ps : List Str} : FnOk P w K mg base (L2.CX P w) k f fd ps (spM K g fun _ _ => .bad) where
  len := fun vs H Q E ⟨_, _, _, _, _, p⟩ => p.elim
  run := fun A outer s H args us vs Q E _ _ _ _ ⟨_, _, _, _, _, p⟩ => p.elim
section
variable {X : Cx} {g : Gx} {W : WX} {e : Expr} {es : List Expr} {ma : MA} {p pos : Pos} {x : Str} {j k : Nat} {f : Addr} {ps : List Str} {mf : MF}
theorem re_callO (F : OkF X.prog X.w X.K X.mg g j f ps mf) (hr : Room k X.A) (hm : X.mg x = some (.ref f)) (tk : Takes X W) (ha : RA X g W (e :: es) ma) (hj : j ≤ k := by omega) (hg : Gl X x := by rfl)
    (hdb : (x == ("__debug__" : Str)) = false := by decide) (he : starEach (e :: es) X.env = (false, eval e X.env) :: starEach es X.env := by rfl) (hpl : (backTo pos (starEach es X.env)).any (·.1) = false := by rfl) :
    RE X g W (.Call (.Name x p) (e :: es) [] pos) (callF mf ma) := by
  obtain ⟨fd, F, B, kp, _⟩ := F
  exact re_call ((F X.base).mono hj) hr hm kp B tk ha hg hdb he hpl
end
/-- the law itself, behind the head -/
theorem walk_mv {l : PySem.W.OpenLaw} {n k : Nat} {q : Program} {loose : List Str} {XP : (Str → Option Value) → Heap → Prop} {YP : World → Heap → Prop} {d : DefRec} {x : Str} {mf : MF} (h1 : l.most = some n) (h2 : n ≤ sizeLine) (h3 : d.params.defaults = []) (h4 : Room k callerA)
    (F : ∀ (w : World) (mg : Str → Option Value) (fa : Addr) (h : Heap), YP w h → h.Ns mainGlobals mg → mg d.name = some (.ref fa) → ∃ (K : PySem.W.Frag) (g : Gx), K.In h ∧ OkF l.prog w K mg g k fa [x] mf)
    (hm : ∀ ns : List Int, ns.length ≤ n → ∃ h, mf [.rol (ns.map VV.int)] [] = .ok (.bl true) h) : PySem.W.WalkO q loose XP YP l.row.toRowW d [] (fun f vs => PySem.call f vs) := by
  refine Att.attach_call h1 h3 fun w s0 s1 mg mb fa o pm cd doc a vs ns G Y e1 e2 e3 e4 e5 e6 e7 e8 => ?_
  obtain ⟨K, g, KX, fd, ok, _, _, hb⟩ := F w mg fa _ Y G.T.g e4
  refine law_call KX G.T.g G.T.b G.T.builtins G.T.nolimit e8 e5 e6 (Nat.le_trans e7 h2) h4 (fun base _ _ => ok base) (fun s u => hb s [u] rfl) (fun H hO hS => ?_) fun H e s' c => ?_
  · obtain ⟨hh, em⟩ := hm ns e7
    have wd : Wd := ⟨[], fun _ => False, []⟩
    refine ⟨⟨[], fun _ => False, []⟩, [], [.rol (ns.map VV.int)], ⟨rfl, fun _ _ _ z => by simp at z, fun _ _ z => by simp at z, fun _ _ z => by simp at z, fun _ z => by simp at z, fun _ z => z.elim, fun _ _ _ z => by simp at z, fun b o e => by
      rcases hO b with z | ⟨_, _, z⟩
      · rw [z] at e; cases e
      · rw [z] at e; cases e; trivial⟩, ?_, ?_⟩
    · have nm : ∀ b, ¬ (⟨[], fun _ => False, []⟩ : Wd).mut b := fun b z => by
        rcases z with z | z | z
        · cases z
        · exact z
        · cases z
      simp only [RVs, RV]
      refine ⟨_, [], rfl, ⟨a, ns.map V.int, rfl, ?_, RVs.of_ints ns⟩, rfl⟩
      rcases hS with hS | hS
      · left
        rcases hS with hS | ⟨o, hS⟩
        · rcases hO a with z | ⟨o, xs, z⟩
          · rw [z] at hS; cases hS
          · rw [z] at hS; cases hS
        · exact ⟨o, hS, nm a⟩
      · exact .inr hS
    · rw [em]
      intro w' H' y ex k' r
      simpa only [relV, RV] using r
  · obtain ⟨_, _, _, _, _, _, _, _, _, _, _, _, z⟩ := c
    exact z
/-- what the head tells -/
structure Hy (fa : List He.Fa) (fn : List He.DefD) (ex : PySem.W.Frag → Bool) (K : PySem.W.Frag) (mg : Str → Option Value) : Prop where
  c : He.SaysD fa fn K
  x : ex K = true
  h : ∃ h : Heap, K.In h ∧ h.Ns mainGlobals mg
section
variable {fa : List He.Fa} {fn : List He.DefD} {ex : PySem.W.Frag → Bool} {K : PySem.W.Frag} {mg : Str → Option Value} {x : Str}
theorem Hy.glo (y : Hy fa fn ex K mg) (i : Nat) (e : fa[i]? = some (.glo x) := by rfl) : mg x = some (.ref (He.ga K x)) := by
  obtain ⟨h, a, b⟩ := y.h
  exact He.glo_ok a b (y.c.fact i e)
theorem Hy.free (y : Hy fa fn ex K mg) (i : Nat) (e : fa[i]? = some (.free x) := by rfl) : mg x = none := by
  obtain ⟨h, a, b⟩ := y.h
  exact He.free_ok a b (y.c.fact i e)
theorem Hy.int (y : Hy fa fn ex K mg) (i : Nat) {n : Int} (e : fa[i]? = some (.int x n) := by rfl) : ∃ t, mg x = some (.int n t) := by
  obtain ⟨h, a, b⟩ := y.h
  exact He.int_ok a b (y.c.fact i e)
/-- a second name of what stands under y -/
def aliB (K : PySem.W.Frag) (x z : Str) : Bool := decide (PySem.W.nsIn K mainGlobals x = some (some (.ref (He.ga K z))))
theorem Hy.ali (y : Hy fa fn ex K mg) {z : Str} (e : aliB K x z = true) : mg x = some (.ref (He.ga K z)) := by
  obtain ⟨h, a, b⟩ := y.h
  exact PySem.W.mg_of a b (of_decide_eq_true e)
/-- the i-th of the further facts -/
def exL (l : List (PySem.W.Frag → Bool)) (K : PySem.W.Frag) : Bool := l.all fun f => f K
theorem exL_at {l : List (PySem.W.Frag → Bool)} {K : PySem.W.Frag} (h : exL l K = true) (i : Nat) {f : PySem.W.Frag → Bool} (e : l[i]? = some f) : f K = true := List.all_eq_true.mp h f (List.mem_of_getElem? e)
/-- a built-in under a module's name -/
def bltB (K : PySem.W.Frag) (x : Str) (id : String) : Bool := decide (PySem.W.nsIn K mainGlobals x = some (some (.builtin id)))
theorem Hy.blt (y : Hy fa fn ex K mg) {id : String} (e : bltB K x id = true) : mg x = some (.builtin id) := by
  obtain ⟨h, a, b⟩ := y.h
  exact PySem.W.mg_of a b (of_decide_eq_true e)
end
end Mv
set_option Elab.async false
set_option linter.all false
set_option maxRecDepth 100000
/-! Mv, part N: {k: v for .. in .. for .. in ..}. -/
namespace Mv
open PySem PySem.Spec PyProof.Rows L2

/-! ### the code -/
abbrev dcE (kx vx t0 i0 t1 i1 : Expr) (scope : Scope) (pos : Pos) : Expr := .DictComp kx vx [⟨t0, i0, [], 0⟩, ⟨t1, i1, [], 0⟩] scope pos
section
variable {prog : Program} {w : World} {A : Around} {R : Result → Shared → Prop} {s : Shared} {kx vx t0 i0 t1 i1 : Expr} {scope : Scope} {pos : Pos} {it acc : Value} {D : Addr} {env : Env}
abbrev Nb (prog : Program) (w : World) (A : Around) (env : Env) (R : Result → Shared → Prop) : Value → Shared → Prop := notedBy (model prog w) A env fun e s' => R (.error e) s'
theorem dcE_turn0 : compTurn (dcE kx vx t0 i0 t1 i1 scope pos) 0 it acc env = (do
    standAt i0.pos
    match ← pyNext it with
    | none => pure (.done .next)
    | some v => do
      letOwnedTupleGo t0 it v
      assign t0 env v
      let x ← eval i1 env
      standAt i1.pos
      let x ← foldedSetIterable i1 env x
      let _ ← runOwn (.compStart (dcE kx vx t0 i0 t1 i1 scope pos) 1 (← holding [x] (pyIter x)) acc env) env
      again (.compLoop (dcE kx vx t0 i0 t1 i1 scope pos) 0 it acc env)) := by rfl
theorem dcE_turn1 : compTurn (dcE kx vx t0 i0 t1 i1 scope pos) 1 it (.ref D) env = (do
    standAt i1.pos
    match ← pyNext it with
    | none => pure (.done .next)
    | some v => do
      letOwnedTupleGo t1 it v
      assign t1 env v
      (do
        let kv ← eval kx env
        let vv ← holding [kv] (eval vx env)
        standAt { kx.pos with endLine := vx.pos.endLine, endCol := vx.pos.endCol }
        holding [kv, vv] (dictSet D kv vv))
      again (.compLoop (dcE kx vx t0 i0 t1 i1 scope pos) 1 it (.ref D) env)) := by rfl
/-- the first clause's loop -/
theorem dcE_out (hs : ∀ x, foldedSetIterable i1 env x = pure x) (I : Nat → Shared → Prop)
    (turn : ∀ n s, I n s → wpAny (model prog w) A (pyNext it) (fun r s1 => match r with
      | none => R (.ok .next) s1
      | some v => wpAny (model prog w) A (letOwnedTupleGo t0 it v) (fun _ s2 => wpAny (model prog w) A (assign t0 env v) (fun _ s3 => wpAny (model prog w) A (eval i1 env) (fun x s4 => wpAny (model prog w) A (pyIter x) (fun it1 s5 =>
          codeAny (model prog w) A (.compStart (dcE kx vx t0 i0 t1 i1 scope pos) 1 it1 acc env) (fun r s' => match r with
            | .ok _ => ∃ m, m < n ∧ I m s'
            | .error _ => False) s5) (Nb prog w A env R) s4) (Nb prog w A env R) s3) (Nb prog w A env R) s2) (Nb prog w A env R) s1) (Nb prog w A env R) s)
    (n : Nat) (h : I n s) : codeAny (model prog w) A (.compLoop (dcE kx vx t0 i0 t1 i1 scope pos) 0 it acc env) R s := by
  refine codeAny_loop rfl I (fun n s hI => ?_) n h
  show wpAny _ A ((compTurn (dcE kx vx t0 i0 t1 i1 scope pos) 0 it acc env).onRaise (fun x => do noteFrame x env; theTreesLotGoes x)) _ _ s
  refine wpAny_noted ?_
  rw [dcE_turn0]
  refine wpAny_bind (wpAny_standAt (wpAny_bind (wpAny_mono (turn n s hI) (fun r s1 h1 => ?_) fun _ _ z => z)))
  cases r with
  | none => exact wpAny_pure h1
  | some v =>
    refine wpAny_bind (wpAny_mono h1 (fun _ s2 h2 => wpAny_bind (wpAny_mono h2 (fun _ s3 h3 => wpAny_bind (wpAny_mono h3 (fun x s4 h4 => ?_) fun _ _ z => z)) fun _ _ z => z)) fun _ _ z => z)
    refine wpAny_bind (wpAny_standAt (wpAny_bind (wpAny_of_eq (hs x) (wpAny_bind (wpAny_holding (wpAny_mono h4 (fun it1 s5 h5 => wpAny_bind (wpAny_runOwn ?_)) fun _ _ z => z))))))
    rw [Around.mark_none]
    refine codeAny_mono h5 fun r s' hr => ?_
    cases r with
    | ok f => first | exact wpAny_pure ⟨rfl, hr⟩ | exact wpAny_bind (wpAny_pure (wpAny_pure ⟨rfl, hr⟩))
    | error e => exact hr.elim
/-- the second one's -/
theorem dcE_in (I : Nat → Shared → Prop)
    (turn : ∀ n s, I n s → wpAny (model prog w) A (pyNext it) (fun r s1 => match r with
      | none => R (.ok .next) s1
      | some v => wpAny (model prog w) A (letOwnedTupleGo t1 it v) (fun _ s2 => wpAny (model prog w) A (assign t1 env v) (fun _ s3 => wpAny (model prog w) A (eval kx env) (fun kv s4 => wpAny (model prog w) A (eval vx env) (fun vv s5 =>
          wpAny (model prog w) A (dictSet D kv vv) (fun _ s6 => ∃ m, m < n ∧ I m s6) (Nb prog w A env R) s5) (Nb prog w A env R) s4) (Nb prog w A env R) s3) (Nb prog w A env R) s2) (Nb prog w A env R) s1) (Nb prog w A env R) s)
    (n : Nat) (h : I n s) : codeAny (model prog w) A (.compLoop (dcE kx vx t0 i0 t1 i1 scope pos) 1 it (.ref D) env) R s := by
  refine codeAny_loop rfl I (fun n s hI => ?_) n h
  show wpAny _ A ((compTurn (dcE kx vx t0 i0 t1 i1 scope pos) 1 it (.ref D) env).onRaise (fun x => do noteFrame x env; theTreesLotGoes x)) _ _ s
  refine wpAny_noted ?_
  rw [dcE_turn1]
  refine wpAny_bind (wpAny_standAt (wpAny_bind (wpAny_mono (turn n s hI) (fun r s1 h1 => ?_) fun _ _ z => z)))
  cases r with
  | none => exact wpAny_pure h1
  | some v =>
    refine wpAny_bind (wpAny_mono h1 (fun _ s2 h2 => wpAny_bind (wpAny_mono h2 (fun _ s3 h3 => ?_) fun _ _ z => z)) fun _ _ z => z)
    exact wpAny_bind (wpAny_bind (wpAny_mono h3 (fun kv s4 h4 => wpAny_bind (wpAny_holding (wpAny_mono h4 (fun vv s5 h5 => wpAny_bind (wpAny_standAt (wpAny_holding (wpAny_mono h5 (fun _ s6 h6 => wpAny_pure ⟨rfl, h6⟩) fun _ _ z => z)))) fun _ _ z => z))) fun _ _ z => z))
/-- the second clause begins -/
theorem dcE_start1 (h0 : codeAny (model prog w) A (.compLoop (dcE kx vx t0 i0 t1 i1 scope pos) 1 it acc env) R s)
    (h : wpAny (model prog w) A (pyIter it) (fun it' s' => codeAny (model prog w) A (.compLoop (dcE kx vx t0 i0 t1 i1 scope pos) 1 it' acc env) R s') (Nb prog w A env R) s) :
    codeAny (model prog w) A (.compStart (dcE kx vx t0 i0 t1 i1 scope pos) 1 it acc env) R s := by
  refine codeAny_of_tree ?_
  show wpAny _ _ ((compStart (dcE kx vx t0 i0 t1 i1 scope pos) 1 it acc env).onRaise (fun x => do noteFrame x env; standAt theWindowsPlace)) _ _ s
  refine wpAny_notedAt ?_
  unfold compStart
  show wpAny _ _ (ask >>= _) _ _ s
  refine wpAny_bind (wpAny_askSetting (wpAny_ite ?_))
  split
  · first | exact wpAny_bind (wpAny_pure (wpAny_pure (And.intro rfl h0))) | exact wpAny_pure (And.intro rfl h0)
  · first
      | exact wpAny_bind (wpAny_rule (wpAny_bind (wpAny_standAt (wpAny_bind (wpAny_mono h (fun it' s' z => wpAny_pure (And.intro rfl z)) fun _ _ z => z)))))
      | (refine wpAny_bind (wpAny_rule ?_); show wpAny _ _ (standAt i1.pos >>= _) _ _ s; exact wpAny_bind (wpAny_standAt (wpAny_bind (wpAny_mono h (fun it' s' z => wpAny_pure (And.intro rfl z)) fun _ _ z => z))))
end

/-! ### its reading -/
abbrev TK2 := L2.St → Hp → (Hp → Prop) → Prop
/-- one turn of the second clause: the dict at D grows -/
def tPut (tk tv : TE) (D : Addr) : TK2 := fun σ H N => tk σ H fun y H1 => tv σ H1 fun z H2 => ∃ kvs k, y = kV k ∧ H2 D = some (.dK kvs) ∧ kvs.length < sizeLine ∧ N (upd H2 D (.dK (putK kvs k z)))
/-- the second clause's loop, from σ: it reaches N -/
def tIn (wi1 : TI) (g1 : TG) (tp : TK2) (vs1 : List Nat) : TK2 := fun σ H N => wi1 σ H fun J H1 => ∃ W : Nat → Nat → Hp → Prop, (∃ m, W 0 m H1) ∧ ∀ j k H, W j k H →
  (J.stop j H ∧ N H) ∨ (J.go j H ∧ ∃ N1 : Hp → Prop, (∀ H', N1 H' → ∃ k', k' < k ∧ W (j + 1) k' H') ∧ ∀ x H', J.yld j H x H' → g1 x (wipe σ vs1) H' fun σ3 H5 => wipe σ3 vs1 = wipe σ vs1 ∧ tp σ3 H5 N1)
def tDc2 (wi : TI) (g : TG) (wi1 : TI) (g1 : TG) (tk tv : TE) (vs vs1 : List Nat) : TE := fun σ H Q => wi σ H fun J H1 => ∀ D, H1 D = none → ∃ W : Nat → Nat → Hp → Prop, (∃ m, W 0 m (upd H1 D (.dK []))) ∧ ∀ i m H, W i m H →
  (J.stop i H ∧ Q (.ref D) H) ∨ (J.go i H ∧ ∃ N : Hp → Prop, (∀ H', N H' → ∃ m', m' < m ∧ W (i + 1) m' H') ∧ ∀ x H', J.yld i H x H' → g x (wipe σ vs) H' fun σ2 H2 => wipe σ2 vs = wipe σ vs ∧ tIn wi1 g1 (tPut tk tv D) vs1 σ2 H2 N)
section
variable {X : Cx}
/-- what is known of σ after a wipe is known of τ -/
def Knows (σ τ : L2.St) : Prop := σ.length = τ.length ∧ ∀ (j : Nat) v, σ[j]? = some (some v) → τ[j]? = some (some v)
theorem knows_of {σ τ : L2.St} {vs : List Nat} (e : wipe τ vs = wipe σ vs) : Knows (wipe σ vs) τ := ⟨by rw [← e, wipe_length], fun j v q => by rw [← e] at q; exact (wipe_some q).1⟩
theorem knows_wipe {σ τ : L2.St} {vs vs1 : List Nat} (hv : ∀ i ∈ vs1, i ∈ vs) (e : wipe τ vs = wipe σ vs) : Knows (wipe σ vs) (wipe τ vs1) := ⟨by rw [← e, wipe_length, wipe_length], fun j v q => by
  rw [← e] at q
  obtain ⟨e1, e2⟩ := wipe_some q
  rw [wipe_out fun z => e2 (hv j z)]
  exact e1⟩
theorem dc2_core {pins : List (Addr × Obj)} {s : Shared} {σ : L2.St} {H : Hp} {Q : VK} {kx vx tg iter tg1 iter1 : Expr} {scope : Scope} {own : List (Str × Nat)} {vs1 : List Nat} {pos pos' : Pos} {wi wi1 : TI} {g g1 : TG} {tk tv : TE} {use : Option (Value → Sem Unit)} {Qf : Value → Shared → Prop}
    (hc : X.calm = true) (hN : X.N.Nodup) (I : Inv X pins σ H s) (hi : PI X tg iter wi) (ok : BlkOk X.N X.env.scope scope own) (hv : ∀ i ∈ vs1, i ∈ own.map (·.2))
    (hg : ∀ (s : Shared) (H : Hp) (C : Addr) (cl : List (Str × Addr)) (fp : List Addr), PG (X.blk s H scope (compEnvC scope cl C X.env) fp) tg g)
    (hi1 : ∀ (s : Shared) (H : Hp) (C : Addr) (cl : List (Str × Addr)) (fp : List Addr), PI (X.blk s H scope (compEnvC scope cl C X.env) fp) tg1 iter1 wi1)
    (hg1 : ∀ (s : Shared) (H : Hp) (C : Addr) (cl : List (Str × Addr)) (fp : List Addr), PG (X.blk s H scope (compEnvC scope cl C X.env) fp) tg1 g1)
    (hk : ∀ (s : Shared) (H : Hp) (C : Addr) (cl : List (Str × Addr)) (fp : List Addr), PE (X.blk s H scope (compEnvC scope cl C X.env) fp) kx tk)
    (he : ∀ (s : Shared) (H : Hp) (C : Addr) (cl : List (Str × Addr)) (fp : List Addr), PE (X.blk s H scope (compEnvC scope cl C X.env) fp) vx tv)
    (hs : ∀ x, foldedSetIterable iter X.env x = pure x) (hs1 : ∀ env x, foldedSetIterable iter1 env x = pure x) (h : tDc2 wi g wi1 g1 tk tv (own.map (·.2)) vs1 σ H Q)
    (hRR : ∀ D C s' m H', Inv X pins σ H' s' → Q (.ref D) H' → s'.heap.Ns C m → FpOk X pins H' C → compPost (model X.prog X.w) X.A X.xe use Qf (.ref D) C (.ok .next) s') :
    wpAny (model X.prog X.w) X.A (comprehension (dcE kx vx tg iter tg1 iter1 scope pos) scope X.env pos' newDict false (eval iter X.env) use) Qf X.xe s := by
  have fr : ∀ y ∈ scope.names, y.2 = .free → ∃ c, X.env.cells.lookup y.1 = some c := fun y hy e => (ok.free y hy e).elim (fun k => I.ok.has _ (.inl k)) fun k => I.ok.has _ (.inr k)
  refine wpAny_comprehension_free (use := use) rfl hs (closure_ok fr) ok.kind (fun y hy e => by rw [ok.uniq y hy, e]) (thn (hi.run pins s σ H _ I h) fun xv s1 hx => thn hx fun itv s2 h2 => ?_)
  obtain ⟨it, fp, tn, J, H2, e, I2, T, st2, f2, q⟩ := h2
  subst e
  refine wpAny_newObj_type (newEnv_comp ?_)
  -- the new dict at D
  generalize hD : s2.heap.objs.size = D
  have hDn : H2 D = none := I2.hok.fresh (Nat.le_of_eq hD)
  obtain ⟨W, ⟨m0, w0⟩, turn⟩ := q D hDn
  generalize hs3 : ({ s2 with heap := s2.heap.push { cls := .type "dict", data := .dict #[] } } : Shared) = s3
  have h3 : s3.heap = s2.heap.push { cls := .type "dict", data := .dict #[] } := by rw [← hs3]
  have I3 : Inv X pins σ (upd H2 D (.dK [])) s3 := by
    have em := dk_empty (P := X.prog) (w := X.w) (H := upd H2 s2.heap.objs.size (.dK [])) s2.heap I2.big
    rw [hD] at em
    rw [← hs3]
    exact I2.laid (t' := s2.toks) (fun b o e => Heap.get?_push_of_some _ e) (Nat.le_of_eq hD) em
  have f3 : ∀ b ∈ fp, FpOk X pins (upd H2 D (.dK [])) b ∧ b < s3.heap.objs.size := fun b hb => by
    obtain ⟨o, eo, _⟩ := T.obj _ _ st2 b hb
    have hlt := Heap.lt_size eo
    exact ⟨⟨(upd_ne (by rw [← hD]; exact Nat.ne_of_lt hlt)).trans (f2 b hb).1, (f2 b hb).2⟩, by rw [h3, Heap.size_push]; exact Nat.lt_succ_of_lt hlt⟩
  have st3 : tn 0 s3.heap := T.keep _ _ _ st2 fun b _ o e => by rw [h3]; exact Heap.get?_push_of_some _ e
  have I4 := block_start I3 ok hN f3
  -- the block's own readings
  have rg := hg s3 (upd H2 D (.dK [])) s3.heap.objs.size (cellsFrom (s3.heap.objs.size + 1) scope.names (cloFrom X.env.cells scope.names [])) fp
  have rg1 := hg1 s3 (upd H2 D (.dK [])) s3.heap.objs.size (cellsFrom (s3.heap.objs.size + 1) scope.names (cloFrom X.env.cells scope.names [])) fp
  have ri1 := hi1 s3 (upd H2 D (.dK [])) s3.heap.objs.size (cellsFrom (s3.heap.objs.size + 1) scope.names (cloFrom X.env.cells scope.names [])) fp
  have rk := hk s3 (upd H2 D (.dK [])) s3.heap.objs.size (cellsFrom (s3.heap.objs.size + 1) scope.names (cloFrom X.env.cells scope.names [])) fp
  have re := he s3 (upd H2 D (.dK [])) s3.heap.objs.size (cellsFrom (s3.heap.objs.size + 1) scope.names (cloFrom X.env.cells scope.names [])) fp
  show codeAny _ _ (.compStart (dcE kx vx tg iter tg1 iter1 scope pos) 0 (.ref it) (.ref D) (compEnvC scope (cellsFrom (s3.heap.objs.size + 1) scope.names (cloFrom X.env.cells scope.names [])) s3.heap.objs.size X.env)) (compPost (model X.prog X.w) X.A X.xe use Qf (.ref D) s3.heap.objs.size) { s3 with heap := pushCells (s3.heap.push { cls := .type "dict", data := .dict #[] }) scope.names }
  generalize hce : compEnvC scope (cellsFrom (s3.heap.objs.size + 1) scope.names (cloFrom X.env.cells scope.names [])) s3.heap.objs.size X.env = ce at I4 rg rg1 ri1 rk re ⊢
  have cL : ce.locals = s3.heap.objs.size := by subst hce; rfl
  generalize hH3 : upd H2 D (.dK []) = H3 at I3 I4 rg rg1 ri1 rk re w0 f3
  generalize hs4 : ({ s3 with heap := pushCells (s3.heap.push { cls := .type "dict", data := .dict #[] }) scope.names } : Shared) = s4 at I4 ⊢
  generalize hY : X.blk s3 H3 scope ce fp = Y at I4 rg rg1 ri1 rk re
  have st4 : tn 0 s4.heap := T.keep _ _ _ st3 fun b _ o e => by rw [← hs4]; exact pushCells_keeps _ _ _ _ (Heap.get?_push_of_some _ e)
  have stat : ∀ {σ' : L2.St} {H' : Hp} {s' : Shared}, Inv Y [] σ' H' s' → (∀ b ∈ fp, H' b = none) → ∀ b ∈ fp, FpOk Y [] H' b := fun {σ' H' s'} I' hn b hb => by
    subst hY
    exact ⟨hn b hb, (I'.ok.exf b hb).1, I'.ok.exfs b hb, .inl hb, fun x c e => (I'.ok.exf b hb).2 x c e, fun p hp => absurd (show p ∈ ([] : List (Addr × Obj)) ++ [] from hp) (by simp)⟩
  have loop : codeAny (model X.prog X.w) X.A (.compLoop (dcE kx vx tg iter tg1 iter1 scope pos) 0 (.ref it) (.ref D) ce) (compPost (model X.prog X.w) X.A X.xe use Qf (.ref D) s3.heap.objs.size) s4 := by
    refine dcE_out (hs1 ce) (fun n s' => ∃ i H', Inv Y [] (wipe σ (own.map (·.2))) H' s' ∧ tn i s'.heap ∧ (∀ b ∈ fp, H' b = none) ∧ W i n H') ?_ m0 ⟨0, H3, I4, st4, fun b hb => (f3 b hb).1.1, w0⟩
    rintro n s5 ⟨i, H5, I5, st5, n5, w5⟩
    rcases turn i n H5 w5 with ⟨stop, qq⟩ | ⟨go, Nx, hNx, step⟩
    · -- the end: back in the def
      subst hY
      refine thnF (T.done (X.blk s3 H3 scope ce fp) rfl rfl rfl hc i [] s5 _ H5 (fun _ _ => False) I5 (stat I5 n5) st5 stop) fun r s6 ⟨hr, I6⟩ => ?_
      subst hr
      have I7 : Inv X pins σ H5 s6 := I3.call' (ch := fp) I6.os I6.base I6.hok I6.bare fun b hb => ⟨(f3 b hb).1.2.2.2.1, (f3 b hb).1.2.1, (f3 b hb).1.2.2.2.2.1, (f3 b hb).1.2.2.2.2.2⟩
      have nC : H5 s3.heap.objs.size = none := by
        have z : H5 ce.locals = none := I6.free
        rwa [cL] at z
      obtain ⟨m, hn, _⟩ := I6.loc
      have hn : s6.heap.Ns ce.locals m := hn
      rw [cL] at hn
      exact hRR D s3.heap.objs.size s6 m H5 I7 qq hn (I3.fpOk (Nat.le_refl _) nC)
    · -- a turn
      subst hY
      refine thnF (T.item (X.blk s3 H3 scope ce fp) rfl rfl rfl hc i [] s5 _ H5 (fun _ _ => False) I5 (stat I5 n5) st5 go) fun r s6 ⟨u, hr, h6⟩ => ?_
      subst hr
      refine thnF h6 fun _ s7 ⟨x, H7, I7, r7, y7, st7, n7⟩ => ?_
      have I7' := I7.pinned (stat I7 n7) (T.obj _ _ st7)
      refine thnF (rg.run _ s7 _ H7 x u _ I7' r7 (step x H7 y7)) fun _ s8 ⟨σ8, H8, I8, hw8, q8⟩ => ?_
      -- from slots that know the wiped ones back to the loop's head
      have back : ∀ {τ : L2.St} {s' : Shared} {H' : Hp}, Inv (X.blk s3 H3 scope ce fp) ([] ++ pinsAt fp s7.heap) τ H' s' → Knows (wipe σ (own.map (·.2))) τ → Nx H' →
          ∃ m, m < n ∧ ∃ i H', Inv (X.blk s3 H3 scope ce fp) [] (wipe σ (own.map (·.2))) H' s' ∧ tn i s'.heap ∧ (∀ b ∈ fp, H' b = none) ∧ W i m H' := fun {τ s' H'} I' kn nx => by
        obtain ⟨m', hm, w'⟩ := hNx H' nx
        have pin' : ∀ b ∈ fp, ∀ o, s7.heap.get? b = some o → s'.heap.get? b = some o ∧ H' b = none := fun b hb o e => ⟨(I'.pin (b, o) (List.mem_append_right _ (List.mem_append_right _ (mem_pinsAt hb e)))).1, (I'.pin (b, o) (List.mem_append_right _ (List.mem_append_right _ (mem_pinsAt hb e)))).2.1⟩
        refine ⟨m', hm, i + 1, H', (I'.unpinned (pins := [])).weak kn.1 kn.2, T.keep _ _ _ st7 fun b hb o e => (pin' b hb o e).1, fun b hb => ?_, w'⟩
        obtain ⟨o, e, _⟩ := T.obj _ _ st7 b hb
        exact (pin' b hb o e).2
      refine thnF (ri1.run _ s8 σ8 H8 _ I8 q8) fun xv s10 hx => thnF hx fun itv s11 h11 => ?_
      obtain ⟨it1, fp1, tn1, J1, H11, e1, I11, T1, st11, f11, W1, ⟨m1, w1⟩, turn1⟩ := h11
      subst e1
      have stat1 : ∀ {H' : Hp}, (∀ b ∈ fp1, H' b = none) → ∀ b ∈ fp1, FpOk (X.blk s3 H3 scope ce fp) ([] ++ pinsAt fp s7.heap) H' b := fun hn b hb => ⟨hn b hb, (f11 b hb).2⟩
      have loop1 : codeAny (model X.prog X.w) X.A (.compLoop (dcE kx vx tg iter tg1 iter1 scope pos) 1 (.ref it1) (.ref D) ce) (fun r s' => match r with
          | .ok _ => ∃ m, m < n ∧ ∃ i H', Inv (X.blk s3 H3 scope ce fp) [] (wipe σ (own.map (·.2))) H' s' ∧ tn i s'.heap ∧ (∀ b ∈ fp, H' b = none) ∧ W i m H'
          | .error _ => False) s11 := by
        refine dcE_in (fun k s' => ∃ j H', Inv (X.blk s3 H3 scope ce fp) ([] ++ pinsAt fp s7.heap) (wipe σ8 vs1) H' s' ∧ tn1 j s'.heap ∧ (∀ b ∈ fp1, H' b = none) ∧ W1 j k H') ?_ m1 ⟨0, H11, I11.weak (wipe_length _ _) (fun j v e => (wipe_some e).1), st11, fun b hb => (f11 b hb).1, w1⟩
        rintro k s12 ⟨j, H12, I12, st12, n12, w12⟩
        rcases turn1 j k H12 w12 with ⟨stop1, nx1⟩ | ⟨go1, Nx1, hNx1, step1⟩
        · refine thnF (T1.done (X.blk s3 H3 scope ce fp) rfl rfl rfl hc j _ s12 (wipe σ8 vs1) H12 (fun _ _ => False) I12 (stat1 n12) st12 stop1) fun r s13 ⟨hr, I13⟩ => ?_
          subst hr
          exact back I13 (knows_wipe hv hw8) nx1
        · refine thnF (T1.item (X.blk s3 H3 scope ce fp) rfl rfl rfl hc j _ s12 (wipe σ8 vs1) H12 (fun _ _ => False) I12 (stat1 n12) st12 go1) fun r s13 ⟨u1, hr, h13⟩ => ?_
          subst hr
          refine thnF h13 fun _ s14 ⟨x1, H14, I14, r14, y14, st14, n14⟩ => ?_
          have I14' := I14.pinned (stat1 n14) (T1.obj _ _ st14)
          refine thnF (rg1.run _ s14 (wipe σ8 vs1) H14 x1 u1 _ I14' r14 (step1 x1 H14 y14)) fun _ s15 ⟨σ15, H15, I15, hw15, q15⟩ => ?_
          refine thnF (rk.run _ s15 σ15 H15 _ I15 q15) fun kz s16 ⟨yk, H16, I16, rk16, q16⟩ => ?_
          refine thnF (re.run _ s16 σ15 H16 _ I16 q16) fun vz s17 ⟨yv, H17, I17, rv17, kvs, kk, ek, hD17, hz17, nx⟩ => ?_
          subst ek
          refine d_dictSet (X := X.blk s3 H3 scope ce fp) I17 hD17 hz17 rk16 rv17 fun s18 I18 => ?_
          obtain ⟨m', hm, w'⟩ := hNx1 _ nx
          have pin' : ∀ b ∈ fp1, ∀ o, s14.heap.get? b = some o → s18.heap.get? b = some o ∧ (upd H17 D (.dK (putK kvs kk yv))) b = none := fun b hb o e => ⟨(I18.pin (b, o) (List.mem_append_right _ (List.mem_append_right _ (mem_pinsAt hb e)))).1, (I18.pin (b, o) (List.mem_append_right _ (List.mem_append_right _ (mem_pinsAt hb e)))).2.1⟩
          refine ⟨m', hm, j + 1, _, I18.unpinned.weak (knows_of hw15).1 (knows_of hw15).2, T1.keep _ _ _ st14 fun b hb o e => (pin' b hb o e).1, fun b hb => ?_, w'⟩
          obtain ⟨o, e, _⟩ := T1.obj _ _ st14 b hb
          exact (pin' b hb o e).2
      exact dcE_start1 loop1 (T1.self X.A 0 _ _ _ st11 loop1)
  exact codeAny_compStart_dict loop (T.self X.A 0 _ _ _ st4 loop)
theorem pe_dc2 {kx vx tg iter tg1 iter1 : Expr} {scope : Scope} {own : List (Str × Nat)} {vs1 : List Nat} {pos : Pos} {wi wi1 : TI} {g g1 : TG} {tk tv : TE} (hc : X.calm = true) (hN : X.N.Nodup) (hi : PI X tg iter wi) (ok : BlkOk X.N X.env.scope scope own) (hv : ∀ i ∈ vs1, i ∈ own.map (·.2))
    (hg : ∀ (s : Shared) (H : Hp) (C : Addr) (cl : List (Str × Addr)) (fp : List Addr), PG (X.blk s H scope (compEnvC scope cl C X.env) fp) tg g)
    (hi1 : ∀ (s : Shared) (H : Hp) (C : Addr) (cl : List (Str × Addr)) (fp : List Addr), PI (X.blk s H scope (compEnvC scope cl C X.env) fp) tg1 iter1 wi1)
    (hg1 : ∀ (s : Shared) (H : Hp) (C : Addr) (cl : List (Str × Addr)) (fp : List Addr), PG (X.blk s H scope (compEnvC scope cl C X.env) fp) tg1 g1)
    (hk : ∀ (s : Shared) (H : Hp) (C : Addr) (cl : List (Str × Addr)) (fp : List Addr), PE (X.blk s H scope (compEnvC scope cl C X.env) fp) kx tk)
    (he : ∀ (s : Shared) (H : Hp) (C : Addr) (cl : List (Str × Addr)) (fp : List Addr), PE (X.blk s H scope (compEnvC scope cl C X.env) fp) vx tv)
    (hs : ∀ x, foldedSetIterable iter X.env x = pure x := by intro _; rfl) (hs1 : ∀ env x, foldedSetIterable iter1 env x = pure x := by intro _ _; rfl) :
    PE X (dcE kx vx tg iter tg1 iter1 scope pos) (tDc2 wi g wi1 g1 tk tv (own.map (·.2)) vs1) := by
  refine ⟨fun pins s σ H Q I h => ?_⟩
  rw [arm_eval_DictComp]
  refine dc2_core hc hN I hi ok hv hg hi1 hg1 hk he hs hs1 h fun D C s' m H' I' q hn f => ⟨m, hn, fun h'' sb => ?_⟩
  obtain ⟨f0, f1, f2, f3, f4, f5⟩ := f
  exact ⟨.ref D, H', I'.turned (t' := s'.toks) (fun b o hb e => (sb.2 b hb).trans e) f0 f1 f3 f4 f5, rfl, q⟩
end
end Mv
set_option Elab.async false
set_option linter.all false
set_option maxRecDepth 100000
/-! Mv, part O: mirrors of {k: v for .. in .. for .. in ..}. -/
namespace Mv
open PySem PySem.Spec PyProof.Rows L2

def dc1Go (sv : Sv) (mg : MG) (ek ev : ME) : List VV → KVs → VH → Out KVs
  | [], d, h => .ok d h
  | v :: r, d, h => match mg v with
    | none => .bad
    | some asg => (ek (setsV asg sv) h).nox.bind fun x h2 => (ev (setsV asg sv) h2).nox.bind fun y h3 => (match keyOf x with
        | some _ => dc1Go sv mg ek ev r (putL d.1 d.2 x y) h3
        | none => .bad)
def dc2Go (sv : Sv) (mg : MG) (it1 : MI) (mg1 : MG) (vs1 : List Nat) (ek ev : ME) : List VV → KVs → VH → Out KVs
  | [], d, h => .ok d h
  | v :: r, d, h => match mg v with
    | none => .bad
    | some asg => (it1 (setsV asg sv) h).nox.bind fun items h1 => if fits (d.1.length + items.length) then (dc1Go (wipeS (setsV asg sv) vs1) mg1 ek ev items d h1).bind fun d2 h2 => dc2Go sv mg it1 mg1 vs1 ek ev r d2 h2 else .bad
def dc2M (it : MI) (mg : MG) (it1 : MI) (mg1 : MG) (vs vs1 : List Nat) (ek ev : ME) : ME := fun sv h => (it sv h).bind fun items h1 => (dc2Go (wipeS sv vs) mg it1 mg1 vs1 ek ev items ([], []) h1).bind fun d h2 => .ok (.dct d.1 d.2) h2
section
variable {X : Cx} {g : Gx} {W : WX} {mg mg1 : MG} {is is1 : List Nat} {mi mi1 : MI} {mk mv : ME}
/-- a dict at D under way -/
structure DAt (K : PySem.W.Frag) (g : Gx) (w1 : Wd) (H1 : Hp) (D : Addr) (w : Wd) (H : Hp) (h : VH) (d : KVs) (n : Nat) : Prop where
  gd : Gd w1 H1 D w H
  hk : Hk K g.adr w h H
  at_ : ∃ kvs : List (Key × V), H D = some (.dK kvs) ∧ RVs K g.adr w H d.1 (kvs.map fun p => kV p.1) ∧ RVs K g.adr w H d.2 (kvs.map fun p => p.2) ∧ kvs.length ≤ n
theorem DAt.ext {K : PySem.W.Frag} {w1 w w' : Wd} {H1 H H' : Hp} {D : Addr} {h h' : VH} {d : KVs} {n : Nat} (a : DAt K g w1 H1 D w H h d n) (e : Ext w H w' H') (k : Hk K g.adr w' h' H') : DAt K g w1 H1 D w' H' h' d n := by
  obtain ⟨kvs, h1, h2, h3, h4⟩ := a.at_
  exact ⟨a.gd.ext e, k, kvs, (e.prot D (.inl (by rw [a.gd.P]; exact .inr rfl))).trans h1, RVs.mono e.sees _ _ h2, RVs.mono e.sees _ _ h3, h4⟩
/-- the second clause's turns; what comes behind them is k -/
theorem in_imp {w1 : Wd} {H1 : Hp} {D : Addr} (k1 : ∃ h1, Hk X.K g.adr w1 h1 H1) (hD : H1 D = none) {vs1 : List Nat} (hIn : InIs mg1 is1) (hs : ∀ j ∈ is1, j ∈ vs1) {σ σ0 : L2.St} {sv : Sv} {w2 : Wd} {H2 : Hp} {h2 : VH} {d : KVs} {n : Nat} {Q : VK} {k : KVs → VH → Out VV} {N : Hp → Prop}
    (rs : RSl X.K g w2 H2 sv σ) (a : DAt X.K g w1 H1 D w2 H2 h2 d n) (p : Post X.K g (relV X.K g) w1 H1 σ0 Q W ((mi1 sv h2).nox.bind fun items h3 => if fits (d.1.length + items.length) then (dc1Go (wipeS sv vs1) mg1 mk mv items d h3).bind k else .bad))
    (fin : ∀ w3 H3 h3 d3, Sees w2 H2 w3 H3 → DAt X.K g w1 H1 D w3 H3 h3 d3 16777216 → Post X.K g (relV X.K g) w1 H1 σ0 Q W (k d3 h3) → N H3) :
    tIn (tG X.K g (relI X.K g) mi1 W0) (tGt X.K g mg1) (tPut (tG X.K g (relV X.K g) mk W0) (tG X.K g (relV X.K g) mv W0) D) vs1 σ H2 N := by
  obtain ⟨h1, k1⟩ := k1
  refine ⟨w2, sv, h2, rs, a.hk, ?_⟩
  cases ei : mi1 sv h2 with
  | bad => rw [ei] at p; exact p.elim
  | exc x h3 => rw [ei] at p; exact p.elim
  | ok items h3 =>
    rw [ei] at p
    simp only [Out.nox, Out.bind] at p
    intro w3 H3 J e3 k3 rJ
    have a3 := a.ext e3 k3
    have rs3 := rs.mono _ _ e3.sees
    by_cases hf : fits (d.1.length + items.length) = true
    case neg => rw [if_neg hf] at p; exact p.elim
    rw [if_pos hf] at p
    have hz := fits_le hf
    have hz2 : d.1.length + items.length ≤ 16777216 := by
      unfold fits at hf
      exact Nat.le_of_ble_eq_true hf
    obtain ⟨kvs0, q1, q2, q3, q4⟩ := a3.at_
    have hlen : kvs0.length = d.1.length := by rw [q2.length, List.length_map]
    refine ⟨fun i m H4 => m = items.length - i ∧ i ≤ items.length ∧ ∃ w4 h4 d4, Sees w3 H3 w4 H4 ∧ DAt X.K g w1 H1 D w4 H4 h4 d4 (d.1.length + i) ∧ Post X.K g (relV X.K g) w1 H1 σ0 Q W ((dc1Go (wipeS sv vs1) mg1 mk mv (items.drop i) d4 h4).bind k),
      ⟨items.length, by simp, Nat.zero_le _, w3, h3, d, Sees.refl _ _, ⟨a3.gd, a3.hk, kvs0, q1, q2, q3, by omega⟩, p⟩, ?_⟩
    rintro i m H4 ⟨rfl, hi, w4, h4, d4, se, a4, p4⟩
    by_cases hlt : i < items.length
    · right
      have hv : items[i]? = some items[i] := List.getElem?_eq_getElem hlt
      generalize items[i] = v at hv
      have hdrop : items.drop i = v :: items.drop (i + 1) := by
        obtain ⟨z, ez⟩ := List.getElem?_eq_some_iff.mp hv
        rw [← ez]
        exact List.drop_eq_getElem_cons hlt
      rw [hdrop] at p4
      simp only [dc1Go] at p4
      obtain ⟨go, yl⟩ := rJ.step w4 h4 H4 i v se a4.hk hv
      refine ⟨go, fun H' => ∃ w5 h5 d5, Sees w3 H3 w5 H' ∧ DAt X.K g w1 H1 D w5 H' h5 d5 (d.1.length + (i + 1)) ∧ Post X.K g (relV X.K g) w1 H1 σ0 Q W ((dc1Go (wipeS sv vs1) mg1 mk mv (items.drop (i + 1)) d5 h5).bind k),
        fun H' q => ⟨items.length - (i + 1), by omega, rfl, hlt, q⟩, fun x H5 hy => ?_⟩
      obtain ⟨ex, k5, rx⟩ := yl x H5 hy
      cases em : mg1 v with
      | none => rw [em] at p4; exact p4.elim
      | some asg =>
        rw [em] at p4
        dsimp only at p4
        refine ⟨w4, h4, v, asg, k5, rx, em, fun ya rya => ?_⟩
        have se5 := se.trans ex.sees
        have rs5 := ((rs3.wipe vs1).mono _ _ se5).sets rya
        refine ⟨wipe_eq (is := is1) (setsR_length _ _) hs fun j hj => setsR_ne fun p hp z => ?_, ?_⟩
        · obtain ⟨q, hq, e⟩ := rya.ix p hp
          exact hj (by rw [← z, ← e]; exact hIn v asg em q hq)
        generalize setsV asg (wipeS sv vs1) = sv2 at rs5 p4
        generalize setsR ya (wipe σ vs1) = σ2 at rs5
        rw [Out.bind_assoc] at p4
        have a5 := a4.ext ex k5
        refine ⟨w4, sv2, h4, rs5, k5, ?_⟩
        cases ek : mk sv2 h4 with
        | bad => rw [ek] at p4; exact p4.elim
        | exc x h5 => rw [ek] at p4; exact p4.elim
        | ok xk h6 =>
          rw [ek] at p4
          simp only [Out.nox, Out.bind] at p4
          intro w6 H6 y e6 k6 ry
          have a6 := a5.ext e6 k6
          refine ⟨w6, sv2, h6, rs5.mono _ _ e6.sees, k6, ?_⟩
          cases ev : mv sv2 h6 with
          | bad => rw [ev] at p4; exact p4.elim
          | exc x h7 => rw [ev] at p4; exact p4.elim
          | ok xv h7 =>
            rw [ev] at p4
            simp only [Out.nox, Out.bind] at p4
            intro w7 H7 z e7 k7 rz
            have a7 := a6.ext e7 k7
            cases eo : keyOf xk with
            | none => rw [eo] at p4; exact p4.elim
            | some kk =>
              rw [eo] at p4
              dsimp only at p4
              obtain ⟨kvs, b1, b2, b3, b4⟩ := a7.at_
              have ry7 := RV.mono e7.sees _ _ ry
              have sg : Sees w7 H7 w7 (upd H7 D (.dK (putK kvs kk z))) := guard_set_sees a7.gd.P
              obtain ⟨c1, c2⟩ := put_ok b2 b3 eo rz
              have hput := putK_len kvs kk z
              refine ⟨kvs, kk, ry.key eo, b1, Nat.lt_of_lt_of_le (by omega) hz, w7, h7, putL d4.1 d4.2 xk xv, ((se5.trans e6.sees).trans e7.sees).trans sg, ⟨a7.gd.set k1 hD, guard_set_hk a7.gd.P k7, putK kvs kk z, upd_same, RVs.mono sg _ _ c1, RVs.mono sg _ _ c2, by omega⟩, p4⟩
    · left
      have e : i = items.length := by omega
      subst e
      refine ⟨rJ.stop w4 H4 se, fin w4 H4 h4 d4 (e3.sees.trans se) ?_ ?_⟩
      · obtain ⟨kvs, b1, b2, b3, b4⟩ := a4.at_
        exact ⟨a4.gd, a4.hk, kvs, b1, b2, b3, by omega⟩
      · rw [List.drop_length] at p4
        exact p4
theorem dc2_imp {vs vs1 : List Nat} (hIn : InIs mg is) (hs : ∀ j ∈ is, j ∈ vs) (hIn1 : InIs mg1 is1) (hs1 : ∀ j ∈ is1, j ∈ vs1) {σ : L2.St} {H : Hp} {Q : VK} (t : tG X.K g (relV X.K g) (dc2M mi mg mi1 mg1 vs vs1 mk mv) W σ H Q) :
    tFz (tDc2 (tG X.K g (relI X.K g) mi W) (tGt X.K g mg) (tG X.K g (relI X.K g) mi1 W0) (tGt X.K g mg1) (tG X.K g (relV X.K g) mk W0) (tG X.K g (relV X.K g) mv W0) vs vs1) σ H Q := by
  obtain ⟨w, sv, h, rs, hk, p⟩ := t
  refine seqG' rs hk p fun w1 H1 h1 items J e1 rs1 k1 r1 p1 => ?_
  intro D hD
  refine ⟨fun i m H2 => m = items.length - i ∧ i ≤ items.length ∧ ∃ w2 h2 d, DAt X.K g w1 H1 D w2 H2 h2 d 16777216 ∧ Post X.K g (relV X.K g) w1 H1 σ Q W ((dc2Go (wipeS sv vs) mg mi1 mg1 vs1 mk mv (items.drop i) d h2).bind fun d h3 => .ok (.dct d.1 d.2) h3),
    ⟨items.length, by simp, Nat.zero_le _, w1.guard D, h1, ([], []), ⟨Gd.start k1 hD, guard_hk k1 hD, [], upd_same, by simp [RVs], by simp [RVs], Nat.zero_le _⟩, by simpa using p1⟩, ?_⟩
  rintro i m H2 ⟨rfl, hi, w2, h2, d, a, p2⟩
  by_cases hlt : i < items.length
  · right
    have hv : items[i]? = some items[i] := List.getElem?_eq_getElem hlt
    generalize items[i] = v at hv
    have hdrop : items.drop i = v :: items.drop (i + 1) := by
      obtain ⟨z, ez⟩ := List.getElem?_eq_some_iff.mp hv
      rw [← ez]
      exact List.drop_eq_getElem_cons hlt
    rw [hdrop] at p2
    simp only [dc2Go] at p2
    obtain ⟨go, yl⟩ := r1.step w2 h2 H2 i v a.gd.sees a.hk hv
    refine ⟨go, fun H' => ∃ w3 h3 d, DAt X.K g w1 H1 D w3 H' h3 d 16777216 ∧ Post X.K g (relV X.K g) w1 H1 σ Q W ((dc2Go (wipeS sv vs) mg mi1 mg1 vs1 mk mv (items.drop (i + 1)) d h3).bind fun d h3 => .ok (.dct d.1 d.2) h3),
      fun H' q => ⟨items.length - (i + 1), by omega, rfl, hlt, q⟩, fun x H3 hy => ?_⟩
    obtain ⟨ex, k3, rx⟩ := yl x H3 hy
    cases em : mg v with
    | none => rw [em] at p2; exact p2.elim
    | some asg =>
      rw [em] at p2
      dsimp only at p2
      refine ⟨w2, h2, v, asg, k3, rx, em, fun ya rya => ?_⟩
      have rs3 := ((rs1.wipe vs).mono _ _ (a.gd.sees.trans ex.sees)).sets rya
      refine ⟨wipe_eq (is := is) (setsR_length _ _) hs fun j hj => setsR_ne fun p hp z => ?_, ?_⟩
      · obtain ⟨q, hq, e⟩ := rya.ix p hp
        exact hj (by rw [← z, ← e]; exact hIn v asg em q hq)
      refine in_imp (k := fun d2 h2 => (dc2Go (wipeS sv vs) mg mi1 mg1 vs1 mk mv (items.drop (i + 1)) d2 h2).bind fun d h3 => .ok (.dct d.1 d.2) h3) ⟨h1, k1⟩ hD hIn1 hs1 rs3 (a.ext ex k3) ?_ fun w4 H4 h4 d4 _ a4 p4 => ⟨w4, h4, d4, a4, p4⟩
      rw [Out.bind_assoc] at p2
      cases ei : (mi1 (setsV asg (wipeS sv vs)) h2).nox with
      | bad => rw [ei] at p2; exact p2
      | exc x h5 => rw [ei] at p2; exact p2
      | ok its h5 =>
        rw [ei] at p2
        simp only [Out.bind] at p2 ⊢
        by_cases hf : fits (d.1.length + its.length) = true
        · rw [if_pos hf] at p2 ⊢
          cases eg : dc1Go (wipeS (setsV asg (wipeS sv vs)) vs1) mg1 mk mv its d h5 with
          | ok d2 h6 => rw [eg] at p2; exact p2
          | exc x h6 => rw [eg] at p2; exact p2
          | bad => rw [eg] at p2; exact p2
        · rw [if_neg hf] at p2
          exact p2.elim
  · left
    have e : i = items.length := by omega
    subst e
    refine ⟨r1.stop w2 H2 a.gd.sees, ?_⟩
    rw [List.drop_length] at p2
    obtain ⟨kvs, b1, b2, b3, b4⟩ := a.at_
    exact fz_dct k1 hD a.gd a.hk b1 b2 b3 p2
theorem re_dc2 {kx vx tg iter tg1 iter1 : Expr} {scope : Scope} {pos : Pos} {own : List (Str × Nat)} {vs1 : List Nat} (hc : X.calm = true) (hN : X.N.Nodup) (hi : RI X g W tg iter mi) (ok : BlkOk X.N X.env.scope scope own) (hv : ∀ i ∈ vs1, i ∈ own.map (·.2)) (his : InIs mg is) (hs : ∀ j ∈ is, j ∈ own.map (·.2)) (his1 : InIs mg1 is1) (hs1 : ∀ j ∈ is1, j ∈ vs1)
    (hg : ∀ (s : Shared) (H : Hp) (C : Addr) (cl : List (Str × Addr)) (fp : List Addr), RG (X.blk s H scope (compEnvC scope cl C X.env) fp) g tg mg)
    (hi1 : ∀ (s : Shared) (H : Hp) (C : Addr) (cl : List (Str × Addr)) (fp : List Addr), RI (X.blk s H scope (compEnvC scope cl C X.env) fp) g W0 tg1 iter1 mi1)
    (hg1 : ∀ (s : Shared) (H : Hp) (C : Addr) (cl : List (Str × Addr)) (fp : List Addr), RG (X.blk s H scope (compEnvC scope cl C X.env) fp) g tg1 mg1)
    (hk : ∀ (s : Shared) (H : Hp) (C : Addr) (cl : List (Str × Addr)) (fp : List Addr), RE (X.blk s H scope (compEnvC scope cl C X.env) fp) g W0 kx mk)
    (he : ∀ (s : Shared) (H : Hp) (C : Addr) (cl : List (Str × Addr)) (fp : List Addr), RE (X.blk s H scope (compEnvC scope cl C X.env) fp) g W0 vx mv)
    (hf : ∀ x, foldedSetIterable iter X.env x = pure x := by intro _; rfl) (hf1 : ∀ env x, foldedSetIterable iter1 env x = pure x := by intro _ _; rfl) :
    RE X g W (.DictComp kx vx [⟨tg, iter, [], 0⟩, ⟨tg1, iter1, [], 0⟩] scope pos) (dc2M mi mg mi1 mg1 (own.map (·.2)) vs1 mk mv) :=
  pe_imp (pe_lock (pe_dc2 hc hN hi ok hv hg hi1 hg1 hk he hf hf1)) fun σ H Q t => dc2_imp his hs his1 hs1 t
end
end Mv
set_option Elab.async false
set_option linter.all false
set_option maxRecDepth 100000
/-! Mv, part P: sorted of a list of tuples of ints. -/
namespace Mv
open PySem PySem.Spec PyProof.Rows L2

/-! ### sorting by keys -/
def insK (x : List Int) : List (List Int) → List (List Int)
  | [] => [x]
  | y :: ys => if HT.lexLt y x then y :: insK x ys else x :: y :: ys
def sortK : List (List Int) → List (List Int)
  | [] => []
  | x :: xs => insK x (sortK xs)
theorem insK_perm (x : List Int) : ∀ l : List (List Int), (insK x l).Perm (x :: l)
  | [] => List.Perm.refl _
  | y :: ys => by
    unfold insK
    split
    · exact ((insK_perm x ys).cons y).trans (List.Perm.swap x y ys)
    · exact List.Perm.refl _
theorem sortK_perm : ∀ l : List (List Int), (sortK l).Perm l
  | [] => List.Perm.refl _
  | x :: xs => (insK_perm x (sortK xs)).trans ((sortK_perm xs).cons x)
abbrev SrtK (l : List (List Int)) : Prop := l.Pairwise fun a b => HT.lexLt b a = false
theorem insK_sorted (x : List Int) : ∀ l : List (List Int), SrtK l → SrtK (insK x l)
  | [], _ => List.pairwise_singleton _ _
  | y :: ys, h => by
    have h2 := List.pairwise_cons.mp h
    unfold insK
    split
    · rename_i c
      refine List.pairwise_cons.mpr ⟨fun z hz => ?_, insK_sorted x ys h2.2⟩
      rcases List.mem_cons.mp ((insK_perm x ys).mem_iff.mp hz) with e | hz
      · rw [e]
        exact NtL.lex_asym _ _ c
      · exact h2.1 z hz
    · rename_i c
      have c' : HT.lexLt y x = false := by simpa using c
      refine List.pairwise_cons.mpr ⟨fun z hz => ?_, h⟩
      rcases List.mem_cons.mp hz with e | hz
      · rw [e]
        exact c'
      · exact NtL.lex_tr _ _ _ c' (h2.1 z hz)
theorem sortK_sorted : ∀ l : List (List Int), SrtK (sortK l)
  | [] => List.Pairwise.nil
  | x :: xs => insK_sorted x _ (sortK_sorted xs)
theorem lex_anti : ∀ {a b : List Int}, HT.lexLt a b = false → HT.lexLt b a = false → a = b
  | [], [], _, _ => rfl
  | [], y :: ys, h, _ => by rw [HT.lexLt_nil_cons] at h; cases h
  | x :: xs, [], _, h => by rw [HT.lexLt_nil_cons] at h; cases h
  | x :: xs, y :: ys, h1, h2 => by
    rw [HT.lexLt_cons] at h1 h2
    by_cases e : x = y
    · rw [if_pos e] at h1
      rw [if_pos e.symm] at h2
      rw [e, lex_anti h1 h2]
    · rw [if_neg e] at h1
      rw [if_neg (Ne.symm e)] at h2
      have a := of_decide_eq_false h1
      have b := of_decide_eq_false h2
      omega
theorem srtK_unique : ∀ {l m : List (List Int)}, l.Perm m → SrtK l → SrtK m → l = m
  | [], m, h, _, _ => (List.Perm.eq_nil h.symm).symm
  | x :: l, [], h, _, _ => absurd h.length_eq (by simp)
  | x :: l, y :: m, h, hl, hm => by
    have hl2 := List.pairwise_cons.mp hl
    have hm2 := List.pairwise_cons.mp hm
    have e : x = y := by
      have h1 : x = y ∨ HT.lexLt x y = false := (List.mem_cons.mp (h.mem_iff.mp List.mem_cons_self)).imp id fun z => hm2.1 x z
      have h2 : y = x ∨ HT.lexLt y x = false := (List.mem_cons.mp (h.mem_iff.mpr List.mem_cons_self)).imp id fun z => hl2.1 y z
      rcases h1 with h1 | h1
      · exact h1
      · rcases h2 with h2 | h2
        · exact h2.symm
        · exact lex_anti h1 h2
    subst e
    rw [srtK_unique h.cons_inv hl2.2 hm2.2]

/-! ### how a list of such tuples is sorted -/
section
variable {prog : Program} {w : World} {A : Around} {E : Value → Shared → Prop} {s : Shared}
theorem lt_one {v u : Value} {ns ms : List Int} {Q : Bool → Shared → Prop} (hu : A.units < cLine) (hv : TS.TupInts s.heap v ns) (hw : TS.TupInts s.heap u ms) (h : Q (HT.lexLt ns ms) s) : wpAny (model prog w) A (keyLt' oneType' v u) Q E s := by
  obtain ⟨a, xs, rfl, ⟨⟨cl, dd, dt, sl⟩, ho, hc, n, hd⟩, hi⟩ := hv
  obtain ⟨b, ys, rfl, ⟨⟨cl2, dd2, dt2, sl2⟩, ho2, hc2, n2, hd2⟩, hj⟩ := hw
  dsimp only at hc hd hc2 hd2
  subst hc hd hc2 hd2
  rw [keyLt'_oneType, oneLt'_eq]
  simp only [if_true]
  refine wpAny_bind (wpAny_cRoomFor hu ?_)
  refine wpAny_bind (wpAny_callSpecialIfBound?_slot (T := "tuple") ⟨_, ho, rfl⟩ PySem.F.slot_tuple_lt (call_meets PySem.F.slot_tuple_lt ⟨_, ho, rfl⟩ PySem.F.entry_tuple_lt (PySem.F.args_tuple_lt_2 _ _) (HT.tuple_lt_ints a b xs ys n n2 dd dd2 sl sl2 ns ms hi hj) ⟨ho, ho2, ?_⟩))
  exact wpAny_truthy_bool h
theorem lex_walk {Q : Bool → Shared → Prop} {k m : Nat} : ∀ {us ws : List Value} {ns ms : List Int} (i : Nat), IntsAre us ns → IntsAre ws ms → k + ms.length = m + ns.length → Q (HT.lexLt ns ms) s → PySem.W.KatLex prog w A true (decide (k < m)) Q (us.zip ws) i s
  | _, _, _, _, i, .nil, .nil, e, h => by
    refine PySem.W.kat_nil ?_
    rw [HT.lexLt_nil_nil] at h
    have : decide (k < m) = false := decide_eq_false (by simp at e; omega)
    rw [this]
    exact h
  | _, _, _, _, i, .nil, .cons c u hw, e, h => by
    refine PySem.W.kat_nil ?_
    rw [HT.lexLt_nil_cons] at h
    have : decide (k < m) = true := decide_eq_true (by simp at e; omega)
    rw [this]
    exact h
  | _, _, _, _, i, .cons a t hv, .nil, e, h => by
    rw [List.zip_nil_right]
    refine PySem.W.kat_nil ?_
    rw [HT.lexLt_cons_nil] at h
    have : decide (k < m) = false := decide_eq_false (by simp at e; omega)
    rw [this]
    exact h
  | _, _, _, _, i, .cons a t hv, .cons c u hw, e, h => by
    rw [List.zip_cons_cons]
    rw [HT.lexLt_cons] at h
    refine PySem.W.kat_cons (SeqAt.EqAt.int_int a t c u prog w _ _ ?_)
    refine PySem.W.kat_go (fun e1 => ?_) (fun e1 => ?_)
    · have ex : a = c := by simpa using e1
      rw [if_pos ex] at h
      exact PySem.W.kat_yes (lex_walk (i + 1) hv hw (by simp at e; omega) h)
    · have ex : ¬ a = c := by simpa using e1
      rw [if_neg ex] at h
      refine PySem.W.kat_no ?_
      cases i with
      | zero => exact oneLt_int h
      | succ i => exact PySem.W.kat_one _ _ (PyProof.Rows.lt_int h)
theorem lt_tups {v u : Value} {ns ms : List Int} {Q : Bool → Shared → Prop} (hv : TS.TupInts s.heap v ns) (hw : TS.TupInts s.heap u ms) (h : Q (HT.lexLt ns ms) s) : wpAny (model prog w) A (keyLt' (tuples' true) v u) Q E s := by
  obtain ⟨a, xs, rfl, ⟨o, ho, hc, n, hd⟩, hi⟩ := hv
  obtain ⟨b, ys, rfl, ⟨o2, ho2, hc2, n2, hd2⟩, hj⟩ := hw
  refine PySem.W.kat_lt ho hd ho2 hd2 (lex_walk 0 hi hj ?_ h)
  have h1 := hi.length
  have h2 := hj.length
  rw [Array.length_toList] at h1 h2
  omega
end

/-! ### which way the list is sorted -/
section
variable {M : Model} {prog : Program} {w : World} {A : Around} {E : Value → Shared → Prop} {s : Shared}
theorem mapM_looks {β : Type} {f : Value → Sem β} {r : Value → β} : ∀ (vs : List Value) {Q : List β → Shared → Prop}, (∀ v ∈ vs, ∀ Q : β → Shared → Prop, Q (r v) s → wpAny M A (f v) Q E s) → Q (vs.map r) s → wpAny M A (vs.mapM f) Q E s
  | [], Q, _, h => by
    rw [List.mapM_nil]
    exact wpAny_pure h
  | v :: vs, Q, hf, h => by
    rw [List.mapM_cons]
    refine wpAny_bind (hf v List.mem_cons_self _ ?_)
    exact wpAny_bind (mapM_looks vs (fun u hu => hf u (List.mem_cons_of_mem _ hu)) (wpAny_pure h))
/-- the first item, as the sort asks for it -/
def fstOf (h : Heap) (v : Value) : Option Value := match v with
  | .ref a => (match h.get? a with
    | some o => (match o.data with
      | .seq xs _ => xs[0]?
      | _ => none)
    | none => none)
  | _ => none
theorem first_tup {v : Value} {ns : List Int} {Q : Option Value → Shared → Prop} (hv : TS.TupInts s.heap v ns) (h : Q (fstOf s.heap v) s) : wpAny M A (firstOfTuple' v) Q E s := by
  obtain ⟨a, xs, rfl, ⟨o, ho, hc, n, hd⟩, hi⟩ := hv
  have e : fstOf s.heap (.ref a) = xs[0]? := by
    unfold fstOf
    simp only [ho, hd]
  rw [e] at h
  rw [PySem.W.kas_first_eq]
  refine wpAny_bind (PySem.W.Looks.here (show PySem.W.Looks M s.heap (typeOf (.ref a)) o.cls from (PySem.W.Looks.ld ho).andThen .now) ?_)
  rw [hc, if_neg (by first | decide | simp)]
  exact wpAny_bind (listItems_at ho hd (wpAny_pure h))
theorem fst_none {v : Value} (hv : TS.TupInts s.heap v []) : fstOf s.heap v = none := by
  obtain ⟨a, xs, rfl, ⟨o, ho, hc, n, hd⟩, hi⟩ := hv
  have hl := hi.length
  unfold fstOf
  simp only [ho, hd]
  have : xs = #[] := by
    apply Array.toList_inj.mp
    exact List.length_eq_zero_iff.mp hl
  subst this
  rfl
/-- the first item is empty: one type for all -/
theorem kind_empty {v0 : Value} {rest : List Value} {k : Value → List Int} {Q : SortKind → Shared → Prop} (hv : ∀ v ∈ v0 :: rest, TS.TupInts s.heap v (k v)) (h0 : k v0 = []) (h : Q oneType' s) : wpAny M A (keyKind' (v0 :: rest).toArray) Q E s := by
  rw [kat_kind_eq, List.mapM_toArray, map_eq_pure_bind]
  have z : fstOf s.heap v0 = none := by
    have t := hv v0 List.mem_cons_self
    rw [h0] at t
    exact fst_none t
  refine wpAny_bind (wpAny_bind (mapM_looks (r := fstOf s.heap) _ (fun v hm Q' q => first_tup (hv v hm) q) (wpAny_pure ?_)))
  have e1 : ((List.map (fstOf s.heap) (v0 :: rest)).toArray.all fun x => x.isSome) = false := by simp [z]
  rw [if_neg (by rw [e1]; decide)]
  have e2 : (List.map (fstOf s.heap) (v0 :: rest)).toArray[0]? = some none := by simp [z]
  rw [e2, if_neg (by decide)]
  rw [oneTypeOnly'_eq, List.mapM_toArray, map_eq_pure_bind]
  refine wpAny_bind (wpAny_bind (wpAny_bind (mapM_looks (r := fun _ => Value.type "tuple") _ (fun v hm Q' q => ?_) (wpAny_pure ?_))))
  · obtain ⟨a, xs, rfl, ⟨o, ho, hc, n, hd⟩, hi⟩ := hv v hm
    refine PySem.W.Looks.here (show PySem.W.Looks M s.heap (typeOf (.ref a)) (.type "tuple") from ?_) q
    rw [← hc]
    exact (PySem.W.Looks.ld ho).andThen .now
  have e3 : (List.map (fun _ => Value.type "tuple") (v0 :: rest)).toArray[0]? = some (Value.type "tuple") := by simp
  rw [e3]
  have e4 : ((List.map (fun _ => Value.type "tuple") (v0 :: rest)).toArray.all fun x => x == Value.type "tuple") = true := by simp
  simp only [e4, if_true]
  exact wpAny_pure (wpAny_pure h)
theorem kat_of : ∀ {vs : List Value} {k : Value → List Int}, (∀ v ∈ vs, TS.TupInts s.heap v (k v)) → (∀ v ∈ vs, k v ≠ []) → ∃ fs, PySem.W.KatTups s.heap vs fs ∧ fs.length = vs.length ∧ ∀ f ∈ fs, ∃ i t, f = Value.int i t
  | [], k, _, _ => ⟨[], trivial, rfl, fun f hf => by cases hf⟩
  | v :: vs, k, hv, hk => by
    obtain ⟨fs, h1, h2, h3⟩ := kat_of (vs := vs) (fun u hu => hv u (List.mem_cons_of_mem _ hu)) fun u hu => hk u (List.mem_cons_of_mem _ hu)
    obtain ⟨a, xs, rfl, ⟨o, ho, hc, n, hd⟩, hi⟩ := hv v List.mem_cons_self
    have hne := hk _ List.mem_cons_self
    obtain ⟨xl⟩ := xs
    change IntsAre xl _ at hi
    generalize en : k (.ref a) = nn at hi
    rw [en] at hne
    cases hi with
    | nil => exact absurd rfl hne
    | cons x t r =>
      exact ⟨.int x t :: _, PySem.W.KatTups.cons ho hc hd (by simp) h1, by simp [h2], fun f hf => by
        rcases List.mem_cons.mp hf with e | hf
        · exact ⟨x, t, e⟩
        · exact h3 f hf⟩
theorem tups_sortable {a : Addr} {vs : List Value} {k : Value → List Int} (h0 : 0 < vs.length) (hu : A.units < cLine) (hv : ∀ v ∈ vs, TS.TupInts s.heap v (k v)) (hk : (∃ v0 rest, vs = v0 :: rest ∧ k v0 = []) ∨ ∀ v ∈ vs, k v ≠ []) (ha : ∀ o, s.heap.get? a = some o → o.cls ≠ .type "tuple") :
    SrtO.SortableO prog w A s a vs fun v u => HT.lexLt (k v) (k u) := by
  intro h' keep
  have hv' : ∀ v ∈ vs, TS.TupInts h' v (k v) := fun v hm => (hv v hm).keeps fun b o e c => keep b o (fun z => by subst z; exact ha o e c) e
  rcases hk with ⟨v0, rest, rfl, hk⟩ | hk
  · refine ⟨oneType', fun Q E hq => kind_empty (s := { s with heap := h' }) hv' hk hq, fun p q hp hq => ?_⟩
    exact lt_one (s := { s with heap := h' }) (Q := fun r s' => s' = _ ∧ r = HT.lexLt (k p.1) (k q.1)) (E := fun _ _ => False) hu (hv' p.1 hp) (hv' q.1 hq) ⟨rfl, rfl⟩
  · obtain ⟨fs, h1, h2, h3⟩ := kat_of (s := { s with heap := h' }) hv' hk
    refine ⟨tuples' true, fun Q E hq => ?_, fun p q hp hq => ?_⟩
    · refine PySem.W.kat_kind (s := { s with heap := h' }) (T := .type "int") h1 (by omega) (fun f hm => ?_) (by rfl) ?_
      · obtain ⟨x, t, rfl⟩ := h3 f hm
        exact PySem.W.Looks.now
      · have e : (Value.type "int" != Value.type "tuple") = true := by first | decide +kernel | rfl | decide
        rw [e]
        exact hq
    · exact lt_tups (s := { s with heap := h' }) (Q := fun r s' => s' = _ ∧ r = HT.lexLt (k p.1) (k q.1)) (E := fun _ _ => False) (hv' p.1 hp) (hv' q.1 hq) ⟨rfl, rfl⟩
end
end Mv
set_option Elab.async false
set_option linter.all false
set_option maxRecDepth 100000
/-! Mv, part Q: sorted, as a call. -/
namespace Mv
open PySem PySem.Spec PyProof.Rows L2

def TupK (K : PySem.W.Frag) (H : Hp) : List V → List (List Int) → Prop
  | [], [] => True
  | x :: xs, n :: ns => (∃ t, x = .ref t ∧ SqT K H t (n.map V.int)) ∧ TupK K H xs ns
  | _, _ => False
def rSortedTL (K : PySem.W.Frag) : List V → Hp → VK → Prop := fun vs H Q => ∃ (a : Addr) (xs : List V) (ks : List (List Int)), vs = [.ref a] ∧ SqL K H a xs ∧ TupK K H xs ks ∧ ((∃ r, ks = [] :: r) ∨ ∀ n ∈ ks, n ≠ []) ∧
  ∀ (ys : List V) (kys : List (List Int)) (p : Addr), ys.length = kys.length → (∀ z ∈ ys.zip kys, z ∈ xs.zip ks) → kys.Perm ks → SrtK kys → H p = none → Q (.ref p) (upd H p (.lst ys))
section
variable {X : Cx}
theorem tupK_vals {pins : List (Addr × Obj)} {σ : L2.St} {H : Hp} {s : Shared} (I : Inv X pins σ H s) : ∀ {xs : List V} {ks : List (List Int)} {its : List Value}, Vals xs its → TupK X.K H xs ks →
    (∀ v ∈ its, TS.TupInts s.heap v (TS.intsOf s.heap v)) ∧ its.map (TS.intsOf s.heap) = ks ∧ xs = its.map backV ∧ ∀ v ∈ its, ∃ t, v = Value.ref t
  | [], [], _, .nil, _ => ⟨fun v hv => (by cases hv), rfl, rfl, fun v hv => (by cases hv)⟩
  | [], _ :: _, _, _, t => t.elim
  | _ :: _, [], _, _, t => t.elim
  | x :: xs, n :: ns, _, .cons ru rv, t => by
    obtain ⟨⟨t, rfl, hq⟩, tk⟩ := t
    cases ru
    obtain ⟨h1, h2, h3, h4⟩ := tupK_vals I rv tk
    obtain ⟨its, ri, ht, hz⟩ := I.tuple hq
    have ti : TS.TupInts s.heap (.ref t) n := ⟨t, its.toArray, rfl, ht, by simpa using intsAre_of ri⟩
    refine ⟨fun v hv => ?_, ?_, ?_, fun v hv => ?_⟩
    · rcases List.mem_cons.mp hv with e | hv
      · subst e
        rw [ti.ints]
        exact ti
      · exact h1 v hv
    · rw [List.map_cons, ti.ints, h2]
    · rw [List.map_cons, ← h3]
      rfl
    · rcases List.mem_cons.mp hv with e | hv
      · exact ⟨t, e⟩
      · exact h4 v hv
theorem cr_sortedTL (hu : X.A.units + 64 < cLine) : CallR X (.builtin "sorted") (rSortedTL X.K) := by
  intro pins s σ H vs us Q I r h
  obtain ⟨a, xs, ks, rfl, hs, tk, hk, q⟩ := h
  obtain ⟨its, rv, hl, hz⟩ := I.list hs
  rw [Vals.ref1 r]
  obtain ⟨h1, h2, h3, h4⟩ := tupK_vals I rv tk
  have hlen : its.length ≤ sizeLine := by rw [← rv.length]; exact hz
  refine SrtO.sorted_ord (NtL.swo_lexL (TS.intsOf s.heap)) hl.isList hlen (fun l2 g b hb kk => ?_) fun out hs hb => ?_
  · refine tups_sortable (A := X.A.in1.in1) (s := { s with heap := g }) (by omega) (show X.A.units + 1 + 1 < cLine by omega) (fun v hv => (h1 v hv).keeps fun c o e _ => (kk c o e).2) ?_ fun o e => ?_
    · rcases hk with ⟨rest, hk⟩ | hk
      · left
        cases its with
        | nil => simp at l2
        | cons v0 rest2 =>
          rw [hk, List.map_cons] at h2
          exact ⟨v0, rest2, rfl, (List.cons.inj h2).1⟩
      · right
        intro v hv
        exact hk _ (by rw [← h2]; exact List.mem_map.mpr ⟨v, hv, rfl⟩)
    · rw [hb] at e
      cases e
      intro c
      exact absurd (Value.type.inj c) (by decide)
  · have hm : ∀ v ∈ out, v ∈ its := fun v hv => hb.perm.mem_iff.mp hv
    have h5 : ∀ v ∈ out, ∃ t, v = Value.ref t := fun v hv => h4 v (hm v hv)
    obtain ⟨n, hn⟩ := sortedAll_at s.heap its out.toArray
    have hd : s.heap.objs.size ≤ s.heap.objs.size + 1 := Nat.le_succ _
    refine ⟨.ref (s.heap.objs.size + 1), upd H (s.heap.objs.size + 1) (.lst (out.map backV)), I.laid (t' := s.toks) (fun b o e => sortedAll_old e) hd ⟨?_, out, n, vals_back h5, hn⟩, rfl, q (out.map backV) (out.map (TS.intsOf s.heap)) _ (by simp) ?_ ?_ ?_ (I.hok.fresh hd)⟩
    · rw [List.length_map, hb.perm.length_eq]
      exact hlen
    · intro z hz
      rw [List.zip_map'] at hz
      obtain ⟨v, hv, e⟩ := List.mem_map.mp hz
      rw [h3, ← h2, List.zip_map']
      exact List.mem_map.mpr ⟨v, hm v hv, e⟩
    · rw [← h2]
      exact hb.perm.map _
    · exact List.pairwise_map.mpr hs
end

/-! ### its mirror -/
def tupV (ns : List Int) : VV := .tup (ns.map VV.int)
def tupKs : List VV → Option (List (List Int))
  | [] => some []
  | .tup xs :: r => (allIt xs).bind fun n => (tupKs r).map fun ns => n :: ns
  | _ :: _ => none
def okK : List (List Int) → Bool
  | [] :: _ => true
  | l => l.all fun n => !n.isEmpty
def sortedLF : VF := fun xs h => match xs with
  | [.lst ys] => (match allIt ys with
    | some ns => .ok (.lst ((sortI ns).map VV.int)) h
    | none => (match tupKs ys with
      | some ks => if okK ks then .ok (.lst ((sortK ks).map tupV)) h else .bad
      | none => .bad))
  | _ => .bad
abbrev rSortedL (K : PySem.W.Frag) : List V → Hp → VK → Prop := fun vs H Q => rSortedI K vs H Q ∨ rSortedTL K vs H Q
theorem cr_sortedL {X : Cx} (hu : X.A.units + 64 < cLine) : CallR X (.builtin "sorted") (rSortedL X.K) := cr_sortedI.or (cr_sortedTL hu)
section
variable {K : PySem.W.Frag} {g : Gx} {w : Wd} {H : Hp} {h : VH} {G : Nat → Addr}
theorem tupKs_rel : ∀ {ys : List VV} {ks : List (List Int)} {xs : List V}, tupKs ys = some ks → RVs K G w H ys xs → TupK K H xs ks ∧ ∀ z ∈ xs.zip ks, RV K G w H (tupV z.2) z.1
  | [], _, _, e, r => by
    simp only [tupKs, Option.some.injEq] at e
    simp only [RVs] at r
    subst e r
    exact ⟨trivial, fun z hz => by simp at hz⟩
  | y :: ys, ks, xs, e, r => by
    cases y with
    | tup zs =>
      simp only [tupKs, Option.bind_eq_some_iff, Option.map_eq_some_iff] at e
      obtain ⟨n, e1, ns, e2, rfl⟩ := e
      simp only [RVs] at r
      obtain ⟨x, xs, rfl, r1, r2⟩ := r
      obtain ⟨t1, t2⟩ := tupKs_rel e2 r2
      have e3 := allIt_ok e1
      subst e3
      obtain ⟨a, us, rfl, hq, hr⟩ := RV.tup_get r1
      rw [hr.ints] at hq
      refine ⟨⟨⟨a, rfl, hq⟩, t1⟩, fun z hz => ?_⟩
      rw [List.zip_cons_cons] at hz
      rcases List.mem_cons.mp hz with e | hz
      · rw [e]
        exact r1
      · exact t2 z hz
    | _ => simp [tupKs] at e
theorem okK_ok {ks : List (List Int)} (h : okK ks = true) : (∃ r, ks = [] :: r) ∨ ∀ n ∈ ks, n ≠ [] := by
  unfold okK at h
  split at h
  · exact .inl ⟨_, rfl⟩
  · right
    intro n hn
    have := List.all_eq_true.mp h n hn
    intro z
    subst z
    simp at this
theorem rvs_keys : ∀ {ys : List V} {kys : List (List Int)}, ys.length = kys.length → (∀ z ∈ ys.zip kys, RV K G w H (tupV z.2) z.1) → RVs K G w H (kys.map tupV) ys
  | [], [], _, _ => by simp [RVs]
  | [], _ :: _, e, _ => by simp at e
  | _ :: _, [], e, _ => by simp at e
  | y :: ys, k :: kys, e, h => by
    simp only [List.map_cons, RVs]
    exact ⟨y, ys, rfl, h (y, k) (by simp), rvs_keys (by simpa using e) fun z hz => h z (by rw [List.zip_cons_cons]; exact List.mem_cons_of_mem _ hz)⟩
theorem sortedLS : CallS K g (rSortedL K) sortedLF := by
  intro w h H σ W Q xs vs hk r p
  unfold sortedLF at p
  split at p
  · rename_i ys
    split at p
    · rename_i ns e
      refine .inl (sortedS w h H σ W Q _ vs hk r ?_)
      unfold sortedF
      simp only [e]
      exact p
    · split at p
      · rename_i ks e
        split at p
        · rename_i ok
          obtain ⟨y, rfl, r1⟩ := RVs.one r
          obtain ⟨a, us, rfl, ha, r2⟩ := RV.lst_get r1
          obtain ⟨t1, t2⟩ := tupKs_rel e r2
          refine .inr ⟨a, us, ks, rfl, SqL.of ha, t1, okK_ok ok, fun zs kzs q hl hz hp hs hq => ?_⟩
          have e2 : kzs = sortK ks := srtK_unique (hp.trans (sortK_perm ks).symm) hs (sortK_sorted ks)
          subst e2
          exact post_newl p hk (rvs_keys hl fun z hzz => t2 z (hz z hzz)) hq
        · exact p.elim
      · exact p.elim
  · exact p.elim
end
end Mv
set_option Elab.async false
set_option linter.all false
set_option maxRecDepth 100000
/-! Mv, part R: t[::-1] of a tuple, {k: v}. -/
namespace Mv
open PySem PySem.Spec PyProof.Rows L2
section
variable {prog : Program} {w : World} {A : Around} {E : Value → Shared → Prop} {s : Shared}
theorem places_rev (n : Nat) : Builtin.Slice.slicePlaces ((n : Int) - 1) (-1) (-1) = n := by
  unfold Builtin.Slice.slicePlaces
  rw [if_neg (by decide)]
  by_cases h : (n : Int) - 1 > -1
  · rw [if_pos h]
    have : ((n : Int) - 1 - -1 - 1) / (- -1) + 1 = n := by
      have e : (- -1 : Int) = 1 := by decide
      rw [e, Int.ediv_one]
      omega
    rw [this]
    omega
  · rw [if_neg h]
    omega
theorem sliced_rev {sl : Addr} {n : Nat} {t : Tok} {Q : Int × Int × Nat → Shared → Prop} (hs : s.heap.IsSliceOf sl .none .none (.int (-1) t)) (h : Q ((n : Int) - 1, -1, n) s) : wpAny (model prog w) A (Builtin.Slice.sliceApplied (.ref sl) (pure (n : Int))) Q E s := by
  obtain ⟨os, hos, hcs, hds⟩ := id hs
  unfold Builtin.Slice.sliceApplied Builtin.Slice.sliceFields
  refine wpAny_bind (wpAny_bind (wpAny_field hos hds (x := .none) rfl (wpAny_bind (wpAny_field hos hds (x := .none) rfl (wpAny_bind (wpAny_field hos hds (x := .int (-1) t) rfl (wpAny_pure ?_)))))))
  refine wpAny_bind (slicePart_int ?_)
  show wpAny _ _ (if ((-1 : Int) == 0) = true then _ else _) _ _ s
  rw [if_neg (by decide)]
  refine wpAny_bind (slicePart_none (wpAny_bind (slicePart_none (wpAny_bind (wpAny_pure ?_)))))
  show wpAny _ _ (pure ((n : Int) - 1, (-1 : Int), Builtin.Slice.slicePlaces ((n : Int) - 1) (-1) (-1))) _ _ s
  rw [places_rev]
  exact wpAny_pure h
theorem fm_some {α β : Type} {f : α → Option β} {g : α → β} : ∀ l : List α, (∀ m ∈ l, f m = some (g m)) → l.filterMap f = l.map g
  | [], _ => rfl
  | m :: l, h => by
    rw [List.filterMap_cons, h m List.mem_cons_self, List.map_cons, ← fm_some l fun k hk => h k (List.mem_cons_of_mem _ hk)]
theorem pick_rev (xs : Array Value) : ((List.range xs.size).filterMap fun (m : Nat) => xs[(((xs.size : Int) - 1) + (m : Int) * (-1)).toNat]?).toArray = xs.toList.reverse.toArray := by
  congr 1
  apply List.ext_getElem?
  intro i
  have e : (List.range xs.size).filterMap (fun (m : Nat) => xs[(((xs.size : Int) - 1) + (m : Int) * (-1)).toNat]?) = (List.range xs.size).map fun m => xs.toList.getD (xs.size - 1 - m) .none := by
    refine fm_some _ fun m hm => ?_
    have hm' := List.mem_range.mp hm
    have e1 : (((xs.size : Int) - 1) + (m : Int) * (-1)).toNat = xs.size - 1 - m := by omega
    have hlt : xs.size - 1 - m < xs.size := by omega
    rw [e1]
    simp [hlt]
  rw [e, List.getElem?_map]
  by_cases hi : i < xs.size
  · rw [List.getElem?_range hi, List.getElem?_reverse (by simpa using hi)]
    have hlt : xs.size - 1 - i < xs.size := by omega
    simp [hlt]
  · rw [List.getElem?_eq_none (by simpa using hi), List.getElem?_eq_none (by simpa using hi)]
    rfl
theorem getItem_tuple_rev {t sl : Addr} {items : Array Value} {tk : Tok} {Q : Value → Shared → Prop} (ht : IsTup s.heap t items) (hs : s.heap.IsSliceOf sl .none .none (.int (-1) tk)) (hsz : items.size ≤ sizeLine)
    (h : Q (.ref s.heap.objs.size) { s with heap := s.heap.push { cls := .type "tuple", data := .seq items.toList.reverse.toArray } }) : wpAny (model prog w) A (getItem (.ref t) (.ref sl)) Q E s := by
  obtain ⟨os, hos, hcs, hds⟩ := id hs
  have hTs : s.TypeIs (.ref sl) "slice" := ⟨os, hos, hcs⟩
  have hok : sizeOk (.seq items.toList.reverse.toArray) := by
    show items.toList.reverse.toArray.size ≤ sizeLine
    simpa using hsz
  unfold getItem
  try with_reducible refine wpAny_holding ?_
  first | refine wpAny_bind (wpAny_pure ?_) | skip
  refine wpAny_bind (wpAny_sequenceKey ht.typeIs (by decide) (wpAny_bind (wpAny_callSpecial?_slot (name := Str.ofString "__getitem__") ht.typeIs PyProof.Rows.slot_tuple_getitem (wpAny_call_entry PyProof.Rows.slot_tuple_getitem ht.typeIs entry_tuple_getitem ?_ (args_tuple_getitem _ _)))))
  show wpAny _ _ (Builtin.Tuple.tupleItemsOf (.ref t) >>= _) _ _ s
  refine wpAny_bind (tupleItemsOf_ ht (wpAny_bind (wpAny_typeOf hTs ?_)))
  rw [if_pos (by decide)]
  refine wpAny_bind (sliced_rev hs ?_)
  have hno : ¬ ((((items.size : Int) - 1) == 0 && (-1 : Int) == 1 && items.size == items.size) = true) := by simp
  show wpAny _ _ (if (((items.size : Int) - 1) == 0 && (-1 : Int) == 1 && items.size == items.size) = true then _ else _) _ _ s
  rw [if_neg hno, pick_rev]
  first
    | exact wpAny_bind (m := Builtin.Tuple.tupleExact _) (wpAny_newObj_type (wpAny_pure ⟨_, rfl, wpAny_pure h⟩) hok)
    | exact wpAny_bind (m := Builtin.Tuple.tupleExact _) (wpAny_newObj_type (wpAny_bind (wpAny_pure (wpAny_pure ⟨_, rfl, wpAny_pure h⟩))) hok)
    | exact wpAny_bind (wpAny_bind (m := Builtin.Tuple.tupleExact _) (wpAny_newObj_type (wpAny_pure (wpAny_pure ⟨_, rfl, wpAny_pure h⟩)) hok))
    | exact wpAny_bind (wpAny_bind (m := Builtin.Tuple.tupleExact _) (wpAny_newObj_type (wpAny_pure ⟨_, rfl, wpAny_pure h⟩) hok))
end
section
variable {X : Cx}
/-- t[::-1] -/
def tRevT (K : PySem.W.Frag) (te : TE) : TE := fun σ H Q => te σ H fun x H1 => ∃ a xs, x = .ref a ∧ SqT K H1 a xs ∧ ∀ p, H1 p = none → Q (.ref p) (upd H1 p (.tup xs.reverse))
theorem pe_revT {e : Expr} {te : TE} {k : Nat} {p1 p2 p3 pos : Pos} (he : PE X e te) : PE X (.Subscript e (.Slice none none (some (.UnaryOp .USub (.Constant (.int 1) k p1) p2)) p3) pos) (tRevT X.K te) := by
  refine ⟨fun pins s σ H Q I h => Subscript_ (thn (he.run pins s σ H _ I h) fun v s1 ⟨x, H1, I1, r1, a, xs, ex, hx, q⟩ => ?_)⟩
  subst ex
  cases r1
  have hst : PO X (some (.UnaryOp .USub (.Constant (.int 1) k p1) p2)) (tPart (tUn (rU fun i => .int (-i)) (tC (.int 1)))) := po_some (pe_un un_neg pe_int)
  refine wpAny_Slice (thn (po_none.run pins s1 σ H1 (fun o H2 => o = none ∧ H2 = H1) I1 ⟨rfl, rfl⟩) fun vl s2 ⟨l, H2, I2, pl, el, e2⟩ => ?_)
  subst el e2
  refine thn (po_none.run pins s2 σ H2 (fun o H3 => o = none ∧ H3 = H2) I2 ⟨rfl, rfl⟩) fun vu s3 ⟨u, H3, I3, pu, eu, e3⟩ => ?_
  subst eu e3
  refine thn (hst.run pins s3 σ H3 (fun o H4 => o = some (-1) ∧ H4 = H3) I3 ⟨1, rfl, -1, rfl, rfl, rfl⟩) fun vs s4 ⟨o, H4, I4, ps, eo, e4⟩ => ?_
  subst eo e4
  have I5 : Inv X pins σ H4 { s4 with heap := s4.heap.push { cls := .type "slice", data := .fields #[vl, vu, vs] } } := I4.kept (t' := s4.toks) fun b ob q => Heap.get?_push_of_some _ q
  obtain ⟨its, r, ht, hz⟩ := I5.tuple hx
  have hlen := r.length
  cases pl
  cases pu
  cases ps with
  | int _ tk =>
  show wpAny (model X.prog X.w) X.A (subscriptTail e (.Slice none none (some (.UnaryOp .USub (.Constant (.int 1) k p1) p2)) p3) (.ref a) (.ref s4.heap.objs.size)) (EP X pins σ Q) X.xe { s4 with heap := s4.heap.push { cls := .type "slice", data := .fields #[.none, .none, .int (-1) tk] } }
  refine tail_any (ops := [.ref a, .ref s4.heap.objs.size]) (show IsTup _ a its.toArray from ht).typeIs (PyProof.Rows.slot_tuple_getitem.lookup) ?_ (by with_unfolding_all rfl)
  refine getItem_tuple_rev (items := its.toArray) ht (Heap.IsSliceOf.new _ .none .none (.int (-1) tk)) (by rw [List.size_toArray]; omega) ?_
  refine ⟨.ref _, _, I5.laid (t' := s4.toks) (o := .tup xs.reverse) (fun b ob q => Heap.get?_push_of_some _ q) (Nat.le_refl _) ?_, rfl, q _ (I5.hok.fresh (Nat.le_refl _))⟩
  exact ⟨by rw [List.length_reverse]; exact hz, _, r.reverse, ⟨_, Heap.get?_push_size _ rfl, rfl, _, rfl⟩⟩
end

section
variable {X : Cx} {g : Gx} {W : WX} {e : Expr} {me : ME}
def revM (a : ME) : ME := fun sv h => (a sv h).bind fun x h1 => match x with
  | .tup xs => .ok (.tup xs.reverse) h1
  | _ => .bad
theorem re_rev {k : Nat} {p1 p2 p3 pos : Pos} (he : RE X g W e me) : RE X g W (.Subscript e (.Slice none none (some (.UnaryOp .USub (.Constant (.int 1) k p1) p2)) p3) pos) (revM me) :=
  pe_imp (pe_revT he) fun σ H Q ⟨w, sv, h, rs, hk, pp⟩ => seqG' rs hk pp fun w1 H1 h1 v y e1 rs1 k1 r1 p1 => by
    split at p1
    · rename_i xs
      obtain ⟨a, ys, rfl, hq, r2⟩ := RV.tup_get r1
      exact ⟨a, ys, rfl, hq, fun q hn => post_newt p1 k1 r2.rev hn⟩
    · exact p1.elim

/-! ### {k: v, ..} -/
def pairsGo : List (ME × ME) → Sv → VH → Out (List (VV × VV))
  | [], _, h => .ok [] h
  | (a, b) :: r, sv, h => (a sv h).nox.bind fun x h1 => (b sv h1).nox.bind fun y h2 => (pairsGo r sv h2).bind fun ps h3 => .ok ((x, y) :: ps) h3
def putAll : List (VV × VV) → KVs → Option KVs
  | [], d => some d
  | (x, y) :: r, d => match keyOf x with
    | some _ => putAll r (putL d.1 d.2 x y)
    | none => none
def dlitM (l : List (ME × ME)) : ME := fun sv h => (pairsGo l sv h).bind fun ps h1 => if Nat.ble ps.length 15 then (match putAll ps ([], []) with
  | some d => .ok (.dct d.1 d.2) h1
  | none => .bad) else .bad
def relPs (K : PySem.W.Frag) (g : Gx) (w : Wd) (H : Hp) : List (VV × VV) → List (V × V) → Prop
  | [], ys => ys = []
  | x :: xs, ys => ∃ y r, ys = y :: r ∧ RV K g.adr w H x.1 y.1 ∧ RV K g.adr w H x.2 y.2 ∧ relPs K g w H xs r
abbrev trsOf (X : Cx) (g : Gx) (W : WX) (l : List (ME × ME)) : List (TE × TE) := l.map fun q => (tG X.K g (relV X.K g) q.1 W, tG X.K g (relV X.K g) q.2 W)
theorem pairs_imp {w0 : Wd} {H0 : Hp} {σ0 : L2.St} {Q : VK} : ∀ (l : List (ME × ME)) {w : Wd} {H : Hp} {sv : Sv} {h : VH} {σ : L2.St} {k : List (VV × VV) → VH → Out VV} {T : List (V × V) → Hp → Prop}, RSl X.K g w H sv σ → Hk X.K g.adr w h H →
    Post X.K g (relV X.K g) w0 H0 σ0 Q W ((pairsGo l sv h).bind k) → (∀ w1 H1 h1 ps psV, Ext w H w1 H1 → Hk X.K g.adr w1 h1 H1 → relPs X.K g w1 H1 ps psV → Post X.K g (relV X.K g) w0 H0 σ0 Q W (k ps h1) → T psV H1) → tPairs (trsOf X g W l) σ H T
  | [], w, H, sv, h, σ, k, T, rs, hk, p, i => i w H h [] [] (Ext.refl _ _) hk rfl p
  | (a, b) :: r, w, H, sv, h, σ, k, T, rs, hk, p, i => by
    simp only [pairsGo] at p
    rw [Out.bind_assoc] at p
    refine ⟨w, sv, h, rs, hk, ?_⟩
    show Post _ _ _ _ _ _ _ _ (a sv h)
    cases ea : a sv h with
    | bad => rw [ea] at p; exact p.elim
    | exc x h1 => rw [ea] at p; exact p.elim
    | ok x h1 =>
      rw [ea] at p
      simp only [Out.nox, Out.bind] at p
      intro w1 H1 vx e1 k1 rx
      refine ⟨w1, sv, h1, rs.mono _ _ e1.sees, k1, ?_⟩
      show Post _ _ _ _ _ _ _ _ (b sv h1)
      cases eb : b sv h1 with
      | bad => rw [eb] at p; exact p.elim
      | exc y h2 => rw [eb] at p; exact p.elim
      | ok y h2 =>
        rw [eb] at p
        simp only [Out.nox, Out.bind] at p
        intro w2 H2 vy e2 k2 ry
        refine pairs_imp (w0 := w0) (H0 := H0) (σ0 := σ0) (Q := Q) r (k := fun ps h3 => k ((x, y) :: ps) h3) ((rs.mono _ _ e1.sees).mono _ _ e2.sees) k2 ?_ fun w3 H3 h3 ps psV e3 k3 r3 p3 => ?_
        · cases er : pairsGo r sv h2 with
          | bad => rw [er] at p; exact p
          | exc z h3 => rw [er] at p; exact p
          | ok z h3 => rw [er] at p; exact p
        · refine i w3 H3 h3 ((x, y) :: ps) ((vx, vy) :: psV) ((e1.trans e2).trans e3) k3 ?_ p3
          exact ⟨_, _, rfl, RV.mono (e2.sees.trans e3.sees) _ _ rx, RV.mono e3.sees _ _ ry, r3⟩
theorem putAll_ok {K : PySem.W.Frag} {w : Wd} {H : Hp} : ∀ {ps : List (VV × VV)} {psV : List (V × V)} {d d2 : KVs} {kvs : List (Key × V)}, relPs K g w H ps psV → putAll ps d = some d2 → RVs K g.adr w H d.1 (kvs.map fun p => kV p.1) → RVs K g.adr w H d.2 (kvs.map fun p => p.2) →
    ∃ more : List (Key × V), psV = more.map (fun kv => (kV kv.1, kv.2)) ∧ RVs K g.adr w H d2.1 ((mergeK kvs more).map fun p => kV p.1) ∧ RVs K g.adr w H d2.2 ((mergeK kvs more).map fun p => p.2)
  | [], psV, d, d2, kvs, r, e, a, b => by
    simp only [putAll, Option.some.injEq] at e
    simp only [relPs] at r
    subst e r
    exact ⟨[], rfl, a, b⟩
  | (x, y) :: ps, psV, d, d2, kvs, r, e, a, b => by
    simp only [putAll] at e
    simp only [relPs] at r
    obtain ⟨z, rest, rfl, r1, r2, r3⟩ := r
    split at e
    · rename_i k ek
      obtain ⟨a2, b2⟩ := put_ok a b ek r2
      obtain ⟨more, e1, e2, e3⟩ := putAll_ok r3 e a2 b2
      refine ⟨(k, z.2) :: more, ?_, e2, e3⟩
      rw [List.map_cons, ← e1, ← r1.key ek]
    · cases e
theorem relPs_len {K : PySem.W.Frag} {w : Wd} {H : Hp} : ∀ {ps : List (VV × VV)} {psV : List (V × V)}, relPs K g w H ps psV → ps.length = psV.length
  | [], _, r => by simp only [relPs] at r; rw [r]; rfl
  | x :: xs, _, r => by
    simp only [relPs] at r
    obtain ⟨_, _, rfl, _, _, r⟩ := r
    simp [relPs_len r]
abbrev RPs (X : Cx) (g : Gx) (W : WX) (pos : Pos) (ks : List (Option Expr)) (vs : List Expr) (l : List (ME × ME)) : Prop := PPs X pos ks vs (trsOf X g W l)
theorem rp_nil {pos : Pos} : RPs X g W pos [] [] [] := pps_nil
theorem rp_cons {pos : Pos} {k v : Expr} {ks : List (Option Expr)} {vs : List Expr} {mk mv : ME} {l : List (ME × ME)} (hk : RE X g W k mk) (hv : RE X g W v mv) (hr : RPs X g W pos ks vs l) : RPs X g W pos (some k :: ks) (v :: vs) ((mk, mv) :: l) := pps_cons hk hv hr
theorem re_dlit {pos : Pos} {keys : List (Option Expr)} {values : List Expr} {l : List (ME × ME)} (h : RPs X g W pos keys values l) (hall : keys.all (·.isSome) = true := by rfl) (hl : keys.length = values.length := by rfl) (h0 : keys ≠ [] := by simp) (h15 : keys.length ≤ 15 := by decide) : RE X g W (.Dict keys values pos) (dlitM l) :=
  pe_imp (pe_lock (pe_disp h hall hl h0 h15)) fun σ H Q ⟨w, sv, hh, rs, hk, p⟩ => by
    intro D hD
    refine pairs_imp (w0 := w) (H0 := H) (σ0 := σ) (Q := Q) l (k := fun ps h1 => if Nat.ble ps.length 15 then (match putAll ps ([], []) with | some d => .ok (.dct d.1 d.2) h1 | none => .bad) else .bad) (rs.mono _ _ (guard_sees hk hD)) (guard_hk hk hD) p fun w1 H1 h1 ps psV e1 k1 r1 p1 => ?_
    have gd : Gd w H D w1 H1 := (Gd.start hk hD).ext e1
    have hD1 : H1 D = some (.dK []) := (e1.prot D (.inl (.inr rfl))).trans upd_same
    by_cases c : Nat.ble ps.length 15 = true
    · rw [if_pos c] at p1
      split at p1
      · rename_i d ed
        obtain ⟨more, e2, e3, e4⟩ := putAll_ok (kvs := []) r1 ed (by simp [RVs]) (by simp [RVs])
        have hlen : more.length ≤ 15 := by
          have := relPs_len r1
          have c2 := Nat.le_of_ble_eq_true c
          rw [e2, List.length_map] at this
          omega
        refine ⟨hD1, more, e2, hlen, ?_⟩
        have sg : Sees w1 H1 w1 (upd H1 D (.dK (mergeK [] more))) := guard_set_sees gd.P
        have gd2 := gd.set (o := .dK (mergeK [] more)) hk hD
        have k2 := guard_set_hk (o := .dK (mergeK [] more)) gd.P k1
        exact fz_dct hk hD gd2 k2 upd_same (RVs.mono sg _ _ e3) (RVs.mono sg _ _ e4) p1
      · exact p1.elim
    · rw [if_neg c] at p1
      exact p1.elim
end
end Mv
set_option Elab.async false
set_option linter.all false
set_option maxRecDepth 100000
/-! Mv, part S: errors raised; several except clauses, some with a name. -/
namespace Mv
open PySem PySem.Spec PyProof.Rows L2

/-! ### raise X('..') -/
section
variable {X : Cx} {g : Gx} {W : WX}
def raiseM (c : Nat) : MS := fun sl h => .exc ⟨c, none⟩ sl h
/-- what is asked of an own class of errors that has no __init__ -/
structure ErrC (K : PySem.W.Frag) (C : Addr) : Prop where
  ex : PySem.W.excIn K C He.veBase "ValueError.__new__" = true
  kp : PySem.W.keepIn K (.ref C) = true
  sb : PySem.W.subIn K (.ref C) (.type "BaseException") = some true
  ty : PySem.W.typeIn K (.ref C) = some (.type "type")
theorem rs_raise {c j : Nat} {x m : Str} {p p2 pos pos2 : Pos} (hc : X.calm = true) (tk : Takes X W) (E : ErrC X.K (g.adr c)) (gC : X.mg x = some (.ref (g.adr c))) (hg : Gl X x := by rfl)
    (hdb : (x == ("__debug__" : Str)) = false := by decide) : RS X g W (.Raise (some (.Call (.Name x p) [.Constant (.str m) j p2] [] pos)) none pos2) (raiseM c) :=
  ps_imp (ps_raise hc tk (pmk_own PySem.F.excBase_ValueError E.ex gC E.kp (raises_own E.sb E.ty) hg hdb)) fun D σ H ⟨w, sl, h, f, k, pp⟩ => pp w H σ _ none (ExtS.refl _ _) k f ⟨rfl, trivial⟩
end

/-! ### except clauses, some with a name -/
/-- the ends of a suite whose name goes -/
def endsN (i : Nat) (D : Ends) : Ends := { nx := fun u G => D.nx (u.set i none) G, rt := D.rt, bk := fun u G => D.bk (u.set i none) G, ct := fun u G => D.ct (u.set i none) G }
abbrev Cls : Type := Value × (Addr → Value → Option Addr → TS)
inductive HdM (X : Cx) : List ExceptHandler → List Cls → Prop
  | nil : HdM X [] []
  | plain {x : Str} {c : Value} {t : Addr → Value → Option Addr → TS} {b : Stmt} {bs : List Stmt} {p1 p2 : Pos} {r : List ExceptHandler} {l : List Cls} (n : Names X x c)
      (su : ∀ (a : Addr) (oe : Obj) (cls : Value) (d : Option Addr) (pn : List (Addr × Obj)), Zc cls d oe → (∃ fs, oe.data = .fields fs) → PSs (X.suite a ((a, oe) :: pn)) (b :: bs) (t a cls d)) (more : HdM X r l) :
      HdM X (.ExceptHandler (some (.Name x p1)) none (b :: bs) p2 :: r) ((c, t) :: l)
  | named {x y : Str} {i : Nat} {c : Value} {t : Addr → Value → Option Addr → TS} {b : Stmt} {bs : List Stmt} {p1 p2 : Pos} {r : List ExceptHandler} {l : List Cls} (n : Names X x c) (hi : X.N[i]? = some y) (hl : X.env.kindOf y = some .local)
      (su : ∀ (a : Addr) (oe : Obj) (cls : Value) (d : Option Addr) (pn : List (Addr × Obj)), Zc cls d oe → (∃ fs, oe.data = .fields fs) → PSs (X.suite a ((a, oe) :: pn)) (b :: bs) (t a cls d)) (more : HdM X r l) :
      HdM X (.ExceptHandler (some (.Name x p1)) (some y) (b :: bs) p2 :: r) ((c, fun a cls d D σ H => t a cls d (endsN i D) (σ.set i (some (.ref a))) H) :: l)
section
variable {X : Cx} {body : List Stmt} {h0 : ExceptHandler} {hs : List ExceptHandler} {l : List Cls} {pos : Pos} {tb : WX → TS} {Wo : WX}
theorem ps_try_mix (est : X.stack = X.env :: X.outer) (efr : X.env.frame = some X.env.locals) (nd : X.N.Nodup) (tk : Takes X Wo)
    (hb : ∀ (W : WX) (pn : List (Addr × Obj)) (xe : Value → Shared → Prop), Takes (X.tr pn xe) W → PassesOwn (model X.prog X.w) X.A X.env xe → PSs (X.tr pn xe) body (tb W))
    (hh : HdM X (h0 :: hs) l) : PS X (.Try body (h0 :: hs) [] [] pos) (fun D σ H => tb (wMany X.K Wo D l) D σ H) := by
  refine ⟨fun pins st σ H D J t0 => ?_⟩
  have okX := J.ok
  have eA : X.A.frames = some (X.env :: X.outer) := by rw [okX.frames, est]
  refine wpAny_Try_except (wpAny_mono ((hb (wMany X.K Wo D l) (X.pn ++ pins) (fun v u1 => wpAny (model X.prog X.w) X.A (noteFrame v X.env) (fun _ u2 => wpAny (model X.prog X.w) X.A (setFlight v none) (fun _ u3 =>
    wpAny (model X.prog X.w) X.A (handleBy v X.env (h0 :: hs)) (SP X pins D) X.xe u3) X.xe u2) X.xe u1) (fun v u1 up => ?_) PassesOwn.looking).run [] st σ H D (J.toTry _) t0) (fun fl u1 sp => ?_) fun _ _ z => z)
  · obtain ⟨a, B, sI, pins2, σ2, H2, cls, d, rfl, J2, nb, up1, sky, na, os, ag, wi⟩ := up
    have I2 : Inv X pins σ2 H2 sI := J2.ofTry okX
    rw [show (X.tr (X.pn ++ pins) _).stack = X.env :: X.outer from est] at sky
    refine Sky.land Zc.steady eA efr sky fun g3 fl3 up3 => ?_
    have I3 : Inv X pins σ2 H2 { u1 with heap := g3 } := I2.landed nb fl3.1 (up1.trans up3) os ag
    obtain ⟨o3, v3, at3, z3, d3⟩ := fl3.there
    have nfs : a ∉ frs (X.env :: X.outer) := fun m => by
      obtain ⟨_, o', e', q⟩ := fl3.2.2.1.mem m
      rw [at3] at e'
      cases e'
      exact q _ d3
    have neL : a ≠ X.env.locals := fun z => nfs (List.mem_filterMap.mpr ⟨X.env, List.mem_cons_self, by rw [efr, z]⟩)
    have neF : a ∉ X.fs := fun m => by
      obtain ⟨e, he, q⟩ := List.mem_filterMap.mp m
      exact nfs (List.mem_filterMap.mpr ⟨e, List.mem_cons_of_mem _ he, q⟩)
    have S3 := I3.suite at3 d3 na neL neF
    have LT : PySem.W.Looks (model X.prog X.w) g3 (typeOf (.ref a)) cls := fun A Q E s k q => wpAny_typeOf_ref (k _ _ at3) (by rw [z3.1]; exact q)
    have named : ∀ {x : Str} {c : Value} {p : Pos} {Q E : Value → Shared → Prop}, Names X x c → Q c { u1 with heap := g3 } → wpAny (model X.prog X.w) (X.A.mark (some (.ref a))) (eval (.Name x p) X.env) Q E { u1 with heap := g3 } := fun {x c p Q E} n q => by
      obtain ⟨hg, hdb, hm | ⟨hm, hv, hnn⟩⟩ := n
      · exact ld_glob (X := X.suite a ((a, o3) :: (X.pn ++ pins))) S3 hg hm q hdb
      · exact ld_blt (X := X.suite a ((a, o3) :: (X.pn ++ pins))) S3 hg hm hv q hnn hdb
    suffices go : ∀ (hds : List ExceptHandler) (l : List Cls), HdM X hds l → wMany X.K Wo D l cls d σ2 H2 → wpAny (model X.prog X.w) X.A (handleBy (.ref a) X.env hds) (SP X pins D) X.xe { u1 with heap := g3 } from go _ _ hh wi
    intro hds l hk
    induction hk with
    | nil =>
      intro wi
      refine wpAny_handleBy_nil ?_
      obtain ⟨_, _, _, o5, v5, T5, oT5, t5, e5, _, q5, i5, _⟩ := id fl3
      unfold PySem.passOn
      refine wpAny_bind (wpAny_field e5 q5 i5 ?_)
      rw [if_neg (show ¬ ((Value.ref T5 == Value.none) = true) from by simp)]
      have last : wpAny (model X.prog X.w) X.A (setFlight (.ref a) X.env.frame) (fun _ u4 => wpAny (model X.prog X.w) X.A (throw (.ref a) : Sem Flow) (SP X pins D) X.xe u4) X.xe { u1 with heap := g3 } := by
        rw [efr]
        exact HandSPX.setFlight_upZ fl3 fun g4 hh4 up4 => wpAny_throw (tk _ _ ⟨a, B, sI, pins, σ2, H2, cls, d, rfl, I2, nb, (up1.trans up3).trans up4, .inr (.inr (by rw [est]; exact hh4)), na, os, ag, wi⟩)
      first
        | exact wpAny_bind (wpAny_pure (wpAny_bind last))
        | exact wpAny_bind last
    | @plain x c t b bs p1 p2 r l2 n su more ih =>
      intro wi
      obtain ⟨k, e1, yes, no⟩ := wi
      have LM := PySem.W.exm_one (M := model X.prog X.w) I3.kIn LT e1
      refine wpAny_handleBy_cons (codeAny_handlers_test (named n (LM.here ?_))) (by intro q; cases q)
      cases k with
      | false => exact ih (no rfl)
      | true =>
        refine codeAny_handlers_suite (HandSPX.lands_againZ fl3 fun g4 fl4 up4 => ?_)
        have I4 : Inv X pins σ2 H2 { u1 with heap := g4 } := I2.landed nb fl4.1 ((up1.trans up3).trans up4) os ag
        obtain ⟨o4, v4, at4, z4, d4⟩ := fl4.there
        refine wpAny_mono ((su a o4 cls d (X.pn ++ pins) z4 ⟨_, d4⟩).run [] _ _ H2 _ (I4.suite at4 d4 na neL neF) (yes rfl a na)) (fun fl u6 sp => ?_) (fun _ _ z => False.elim z)
        cases fl with
        | ret u =>
          obtain ⟨v6, σ6, H6, S6, r6, q6⟩ := sp
          exact ⟨v6, σ6, H6, S6.unsuite okX, r6, q6⟩
        | _ =>
          obtain ⟨σ6, H6, S6, q6⟩ := sp
          exact ⟨σ6, H6, S6.unsuite okX, q6⟩
    | @named x y i c t b bs p1 p2 r l2 n hi hl su more ih =>
      intro wi
      obtain ⟨k, e1, yes, no⟩ := wi
      have LM := PySem.W.exm_one (M := model X.prog X.w) I3.kIn LT e1
      refine wpAny_handleBy_cons (codeAny_handlers_test (named n (LM.here ?_))) (by intro q; cases q)
      cases k with
      | false => exact ih (no rfl)
      | true =>
        refine codeAny_handlers_suite_as (HandSPX.lands_againZ fl3 fun g4 fl4 up4 => ?_)
        have I4 : Inv X pins σ2 H2 { u1 with heap := g4 } := I2.landed nb fl4.1 ((up1.trans up3).trans up4) os ag
        obtain ⟨o4, v4, at4, z4, d4⟩ := fl4.there
        refine store_ok (X := X.suite a ((a, o4) :: (X.pn ++ pins))) (v := .ref a) (I4.suite at4 d4 na neL neF) nd hi (.inl hl) rfl (fun u5 S5 => ?_) (.inr hl)
        refine wpAny_mono ((su a o4 cls d (X.pn ++ pins) z4 ⟨_, d4⟩).run [] u5 _ H2 _ S5 (yes rfl a na)) (fun fl u6 sp => ?_) (fun _ _ z => False.elim z)
        have fin : ∀ {σ6 : L2.St} {H6 : Hp} {Q : Shared → Prop}, Inv (X.suite a ((a, o4) :: (X.pn ++ pins))) [] σ6 H6 u6 → (∀ u7, Inv X pins (σ6.set i none) H6 u7 → Q u7) →
            wpAny (model X.prog X.w) X.A (do bindName X.env y .none; unbindBehindTheSuite X.env y p2) (fun _ u7 => Q u7) X.xe u6 := fun S6 q => gone_ok (S6.unsuite okX) nd hi hl q
        cases fl with
        | ret u =>
          obtain ⟨v6, σ6, H6, S6, r6, q6⟩ := sp
          exact fin S6 fun u7 J7 => ⟨v6, _, H6, J7, r6, q6⟩
        | _ =>
          obtain ⟨σ6, H6, S6, q6⟩ := sp
          exact fin S6 fun u7 J7 => ⟨_, H6, J7, q6⟩
  · cases fl with
    | next =>
      obtain ⟨σ2, H2, J2, q⟩ := sp
      exact wpAny_execs_nil ⟨σ2, H2, J2.ofTry okX, q⟩
    | ret u =>
      obtain ⟨v, σ2, H2, J2, r, q⟩ := sp
      exact ⟨v, σ2, H2, J2.ofTry okX, r, q⟩
    | _ =>
      obtain ⟨σ2, H2, J2, q⟩ := sp
      exact ⟨σ2, H2, J2.ofTry okX, q⟩
end
end Mv
set_option Elab.async false
set_option linter.all false
set_option maxRecDepth 100000
/-! Mv, part T: a def that tries what it got and answers by the error's class, called with a lambda. -/
namespace Mv
open PySem PySem.Spec PyProof.Rows L2

/-! ### the clauses of such a def -/
/-- what a clause's answer asks -/
abbrev HR := Value → Option Addr → Hp → VK → Prop
def hw (K : PySem.W.Frag) : List (Value × HR) → VK → XK
  | [], _ => fun _ _ _ => False
  | (c, r) :: l, Q => fun cls d H => ∃ b, PySem.W.exmOne K cls c = some b ∧ (b = true → r cls d H Q) ∧ (b = false → hw K l Q cls d H)
inductive HdR (X : Cx) : List ExceptHandler → List (Value × HR) → Prop
  | nil : HdR X [] []
  | plain {x : Str} {c : Value} {r : HR} {e : Expr} {p1 p2 p3 : Pos} {hs : List ExceptHandler} {l : List (Value × HR)} (n : Names X x c)
      (su : ∀ (a : Addr) (oe : Obj) (cls : Value) (d : Option Addr) (pn : List (Addr × Obj)), Zc cls d oe → (∃ fs, oe.data = .fields fs) → PE (X.suite a ((a, oe) :: pn)) e (fun _ H Q => r cls d H Q)) (more : HdR X hs l) :
      HdR X (.ExceptHandler (some (.Name x p1)) none [.Return (some e) p3] p2 :: hs) ((c, r) :: l)
  | named {x y : Str} {i : Nat} {c : Value} {r : HR} {e : Expr} {p1 p2 p3 : Pos} {hs : List ExceptHandler} {l : List (Value × HR)} (n : Names X x c) (hi : X.N[i]? = some y) (hl : X.env.kindOf y = some .local)
      (su : ∀ (a : Addr) (oe : Obj) (cls : Value) (d : Option Addr) (pn : List (Addr × Obj)), Zc cls d oe → (∃ fs, oe.data = .fields fs) → PE (X.suite a ((a, oe) :: pn)) e (fun σ H Q => σ[i]? = some (some (.ref a)) ∧ r cls d H Q)) (more : HdR X hs l) :
      HdR X (.ExceptHandler (some (.Name x p1)) (some y) [.Return (some e) p3] p2 :: hs) ((c, r) :: l)
/-- as clauses of a try: whatever the slots are -/
theorem HdR.mix {X : Cx} {hs : List ExceptHandler} {l : List (Value × HR)} (h : HdR X hs l) : ∃ l2, HdM X hs l2 ∧ ∀ (D : Ends) cls d σ H, hw X.K l D.rt cls d H → wMany X.K W0 D l2 cls d σ H := by
  induction h with
  | nil => exact ⟨[], .nil, fun D cls d σ H z => z.elim⟩
  | @plain x c r e p1 p2 p3 hs l n su more ih =>
    obtain ⟨l2, h2, w2⟩ := ih
    refine ⟨(c, fun a cls d D σ H => r cls d H D.rt) :: l2, .plain n (fun a oe cls d pn z f => pss_imp (pss_one (ps_ret (su a oe cls d pn z f))) fun D σ H q => q) h2, fun D cls d σ H ⟨b, e1, y, no⟩ => ⟨b, e1, fun eb a _ => y eb, fun eb => w2 D cls d σ H (no eb)⟩⟩
  | @named x y i c r e p1 p2 p3 hs l n hi hl su more ih =>
    obtain ⟨l2, h2, w2⟩ := ih
    refine ⟨(c, _) :: l2, .named (t := fun a cls d D σ H => (i < σ.length → σ[i]? = some (some (.ref a))) ∧ r cls d H D.rt) n hi hl (fun a oe cls d pn z f => ?_) h2, fun D cls d σ H ⟨b, e1, yes, no⟩ => ⟨b, e1, fun eb a _ => ⟨fun hlt => ?_, yes eb⟩, fun eb => w2 D cls d σ H (no eb)⟩⟩
    · have ps := pss_one (ps_ret (pos := p3) (su a oe cls d pn z f))
      refine ⟨fun pins s σ H D I q => ?_⟩
      refine ps.run pins s σ H D I ⟨q.1 ?_, q.2⟩
      have h1 := I.len
      have h3 : i < (X.suite a ((a, oe) :: pn)).N.length := (List.getElem?_eq_some_iff.mp hi).1
      omega
    · rw [List.length_set] at hlt
      rw [List.getElem?_set_self hlt]
/-- the def's reading, from the reading of the call -/
def TTm (K : PySem.W.Frag) (hl : List (Value × HR)) (rf : Hp → VK → Prop) : (XK → Hp → VK → Prop) → Hp → VK → Prop := fun tl H Q => tl (hw K hl Q) H fun _ G => rf G Q
theorem met_gives {X : Cx} {Ng : List Str} {x a q : Str} {sg : Scope} {gA : Addr} {cdg : Value} {h0 : ExceptHandler} {hs : List ExceptHandler} {hl : List (Value × HR)} {ef : Expr} {rf : Hp → VK → Prop} {p1 p2 p3 p4 p5 : Pos} (nd : Ng.Nodup)
    (hh : ∀ (s : Shared) (H : Hp), HdR (cxOf C8.CX0 X.prog X.w X.K X.mg X.base Ng x sg gA cdg X.A X.stack s H C8.E0).nox (h0 :: hs) hl)
    (hf : ∀ (s : Shared) (H : Hp), PE (cxOf C8.CX0 X.prog X.w X.K X.mg X.base Ng x sg gA cdg X.A X.stack s H C8.E0).nox ef (fun _ G Q => rf G Q))
    (st0 : ∀ f : Addr, (L2.start Ng [V.ref f])[0]? = some (some (V.ref f)))
    (sw : ∀ (s : Shared) (H : Hp), swapsWith (.Call (.Name a p1) [] [] p2) none p3.line (cxOf C8.CX0 X.prog X.w X.K X.mg X.base Ng x sg gA cdg X.A X.stack s H C8.E0).nox.env = pure false := by intros; rfl) :
    LamX.GivesTo X Ng x sg gA cdg [.Try [.Expr (.Call (.Name a p1) [] [] p2) p3] (h0 :: hs) [] [] p4, .Return (some ef) p5] a q (TTm X.K hl rf) := by
  intro f c' s H Q tl act hc h
  obtain ⟨l2, h2, w2⟩ := (hh s H).mix
  refine ⟨_, pss_cons (ps_try_mix (tb := fun W D σ H => ∃ Ech : XK, (∀ cls d σ' H', Ech cls d H' → W cls d σ' H') ∧ σ[0]? = some (some (.ref f)) ∧ H c' = some (LamX.CodeO c' q) ∧ tl Ech H fun _ G => D.nx σ G)
      (Wo := W0) rfl rfl nd takes0 (fun W pn xe tk _ => ?_) h2) (pss_one (ps_ret (hf s H))), ?_⟩
  · refine ⟨fun pins u σ G D I q => ?_⟩
    obtain ⟨Ech, hW, h1, h3, h4⟩ := q
    exact (pss_one (ps_expr (pos := p3) (act W pn xe Ech p1 p2 tk hW) (sw s H))).run pins u σ G D I ⟨h1, h3, h4⟩
  · exact ⟨hw X.K hl Q, fun cls d σ' G z => w2 _ cls d σ' G z, st0 f, hc, h⟩

/-! ### tables -/
def tabsOk : List (Nat × Str) → VH → Bool
  | [], _ => true
  | p :: r, .tbl n q :: h => decide (p.1 = n) && (decide (p.2 = q) && tabsOk r h)
  | _ :: _, _ => false
theorem tabsOk_at : ∀ {ts : List (Nat × Str)} {h : VH}, tabsOk ts h = true → ∀ p ∈ ts, ∃ i : Nat, h[i]? = some (.tbl p.1 p.2)
  | [], _, _, p, hp => by cases hp
  | t :: r, [], e, p, hp => by cases e
  | t :: r, .lst _ :: h, e, p, hp => by cases e
  | t :: r, .dead :: h, e, p, hp => by cases e
  | t :: r, .dtt _ _ :: h, e, p, hp => by cases e
  | t :: r, .dct _ _ :: h, e, p, hp => by cases e
  | t :: r, .ins _ _ _ :: h, e, p, hp => by cases e
  | t :: r, .sub _ :: h, e, p, hp => by cases e
  | t :: r, .tbl n q :: h, e, p, hp => by
    unfold tabsOk at e
    simp only [Bool.and_eq_true, decide_eq_true_eq] at e
    rcases List.mem_cons.mp hp with z | z
    · subst z
      exact ⟨0, by rw [e.1, e.2.1]; rfl⟩
    · obtain ⟨i, hi⟩ := tabsOk_at e.2.2 p z
      exact ⟨i + 1, hi⟩
section
variable {K : PySem.W.Frag} {g : Gx} {w : Wd} {H H1 : Hp} {h : VH} {ts : List (Nat × Str)}
def tabsT (g : Gx) (ts : List (Nat × Str)) : List (Addr × Str) := ts.map fun p => (g.adr p.1, p.2)
theorem tab_at (k : Hk K g.adr w h H) {i n : Nat} {q : Str} (e : h[i]? = some (.tbl n q)) : w.phi[i]? = some (some (g.adr n)) ∧ TabW w H (g.adr n) q := by
  obtain ⟨a, ha⟩ := k.has i _ e (by intro z; cases z)
  obtain ⟨o, e1, r⟩ := k.obj i a ha
  rw [e] at e1
  cases e1
  obtain ⟨rfl, r⟩ := r
  exact ⟨ha, r⟩
theorem tabs_of (k : Hk K g.adr w h H) (ok : tabsOk ts h = true) : LamX.Tabs (tabsT g ts) H := fun p hp => by
  obtain ⟨t, ht, rfl⟩ := List.mem_map.mp hp
  obtain ⟨i, hi⟩ := tabsOk_at ok t ht
  obtain ⟨_, ps, h1, h2, h3⟩ := tab_at k hi
  exact ⟨ps, h1, h2, fun pos cv z => by
    obtain ⟨c, e1, e2, _⟩ := h3 pos cv z
    exact ⟨c, e1, e2⟩⟩
/-- every table of the small heap is among ts -/
def onlyT (ts : List (Nat × Str)) (h : VH) : Bool := h.all fun o => match o with
  | .tbl n q => decide ((n, q) ∈ ts)
  | _ => true
theorem tbl_mut (k : Hk K g.adr w h H) {a : Addr} {ps : Array Value} (e : H a = some (.tbl ps)) : w.mut a := .inl (k.spc a _ e)
/-- what the making of a lambda may change: the maker's table; a new code object -/
def LamN (P : Addr) (H H1 : Hp) : Prop := ∀ a, a ≠ P → H1 a = H a ∨ (H a = none ∧ ∃ q, H1 a = some (LamX.CodeO a q))
theorem LamN.refl (P : Addr) (H : Hp) : LamN P H H := fun _ _ => .inl rfl
theorem lam_ext {P : Addr} (k : Hk K g.adr w h H) (eN : LamN P H H1) (hP : some P ∈ w.phi) : Ext w H w H1 where
  keep := fun a o q m => by
    rcases eN a (fun e => m (.inl (by rw [e]; exact hP))) with z | ⟨z, _⟩
    · exact ⟨z.trans q, m⟩
    · rw [q] at z; cases z
  refs := fun _ _ _ q => q
  len := Nat.le_refl _
  P := rfl
  O := rfl
  prot := fun a ha => by
    obtain ⟨h1, h2⟩ := k.prot a ha
    rcases eN a (fun e => h2 (by rw [e]; exact hP)) with z | ⟨z, _⟩
    · exact z
    · exact (h1 z).elim
theorem lam_hk {i n : Nat} {q : Str} (k : Hk K g.adr w h H) (e : h[i]? = some (.tbl n q)) (eN : LamN (g.adr n) H H1) (t : LamX.TabS H1 (g.adr n) q) : Hk K g.adr w h H1 := by
  obtain ⟨hi, _⟩ := tab_at k e
  have hP : some (g.adr n) ∈ w.phi := List.mem_of_getElem? hi
  have ex := lam_ext k eN hP
  have sp : Spcs w H1 := fun a o q1 => by
    by_cases c : a = g.adr n
    · obtain ⟨ps, h1, _⟩ := t
      rw [c, h1] at q1
      cases q1
      rw [c]
      exact hP
    · rcases eN a c with z | ⟨z, q2, z2⟩
      · rw [z] at q1
        exact k.spc a o q1
      · rw [z2] at q1
        cases q1
        exact fun _ m => k.live m z
  refine ⟨k.len, k.inj, fun m a hm => ?_, k.has, fun a ha => ?_, k.own, k.ownI, sp⟩
  · obtain ⟨u, h1, h2⟩ := k.obj m a hm
    by_cases c : a = g.adr n
    · subst c
      have em : m = i := k.inj _ _ _ hm hi
      subst em
      rw [e] at h1
      cases h1
      refine ⟨_, e, rfl, ?_⟩
      obtain ⟨ps, t1, t2, t3⟩ := t
      exact ⟨ps, t1, t2, fun pos cv z => by
        obtain ⟨c, e1, e2⟩ := t3 pos cv z
        exact ⟨c, e1, e2, sp c _ e2 ⟨q, rfl⟩⟩⟩
    · refine ⟨u, h1, RO.mono ex.sees u a (fun z q1 => ?_) h2⟩
      rcases eN a c with z2 | ⟨z2, _⟩
      · rw [z2]; exact q1
      · rw [q1] at z2; cases z2
  · obtain ⟨h1, h2⟩ := k.prot a ha
    exact ⟨by rw [ex.prot a ha]; exact h1, h2⟩
end

/-! ### a lambda is made -/
section
variable {X : Cx} {pins : List (Addr × Obj)} {σ : L2.St} {H : Hp} {s : Shared}
/-- the one table of the maker -/
theorem lam_mk {c P : Addr} {q : Str} {params : Arguments} {body : Expr} {scope : Scope} {pos : Pos} {E : Value → Shared → Prop} {Q : Value → Shared → Prop} (J : Inv X pins σ H s) (TB : LamX.TabB X.base X.mg c P) (ec : X.env.code = .ref c)
    (eq : q = X.env.qual ++ "<lambda>") (hT : LamX.TabS H P q) (ed : defaultsOf params X.env = ([], [])) (fr : ∀ y ∈ scope.names, y.2 = .free → ∃ c, X.env.cells.lookup y.1 = some c)
    (go : ∀ (f c2 : Addr) (pm ct : Value) (G : Hp) (u : Shared), Inv X pins σ G u → LamN P H G → LamX.TabS G P q →
      u.heap.get? f = some (PySem.W.kla_obj "<lambda>" (X.env.qual ++ "<lambda>") params body scope (cloFrom X.env.cells scope.names []) pm c2 ct) → G f = none → f ∉ frs X.stack → G c2 = some (LamX.CodeO c2 q) → Q (.ref f) u) :
    wpAny (model X.prog X.w) X.A (eval (.Lambda params body scope pos) X.env) Q E s := by
  subst eq
  obtain ⟨tb, eP, tri, all⟩ := hT
  have bP : s.heap.BuiltinsAt X.mg P := TB.bm.keeps J.bk
  have getP : s.heap.get? P = some { cls := .none, data := .fields tb } := J.hok P _ eP
  have away : ∀ z, s.heap.objs.size ≤ z → z ∉ frs X.stack := fun z hz m => by
    rcases List.mem_cons.mp (J.stkSub _ m) with e | e
    · have lt := J.lt
      rw [← e] at lt
      exact absurd (Nat.lt_of_lt_of_le lt hz) (Nat.lt_irrefl _)
    · exact J.nofs hz e
  refine PySem.W.kla_eval ed ?_
  cases am : codeAmong pos tb.toList with
  | some v =>
    obtain ⟨c2, rfl, e2⟩ := all pos v am
    refine PySem.W.kla_makeFunctionHit (mg := X.mg) (c := c) (P := P) (ps := tb) (closure_ok fr) J.ok.glob (J.mod.glob.keeps J.bk) ec (TB.code.keeps J.bk) getP tri am bP fun ct g2 k2 hx hz => ?_
    exact go g2.objs.size c2 _ ct H _ (J.kept fun b o e => Heap.get?_push_of_some _ (hx b o e)) (LamN.refl P H) ⟨tb, eP, tri, all⟩ (Heap.get?_push_size _ rfl) (J.hok.fresh hz) (away _ hz) e2
  | none =>
    refine PySem.W.kla_makeFunction (mg := X.mg) (c := c) (P := P) (ps := tb) (closure_ok fr) J.ok.glob (J.mod.glob.keeps J.bk) ec (TB.code.keeps J.bk) getP tri am TB.gP bP fun c2 ct g2 k2 hx ge lt rec put => ?_
    obtain ⟨_, oc, vs, tk, e2, hoc, hd, hv⟩ := rec
    cases e2
    have big : s.heap.objs.size ≤ g2.objs.size := Nat.le_trans ge (Nat.le_of_lt lt)
    have new : H c2 = none := J.hok.fresh ge
    have nPc : P ≠ c2 := ne_of_none eP new
    have J2 := LamX.inv_table (t' := k2) (more := #[rawInt pos.line, rawInt pos.col, .ref c2]) (h' := g2.push (PySem.W.kla_obj "<lambda>" (X.env.qual ++ "<lambda>") params body scope (cloFrom X.env.cells scope.names []) ((X.mg "__name__").getD .none) c2 ct)) J eP
      (fun b o hb e => Heap.get?_push_of_some _ (hx b o hb e)) (Heap.get?_push_of_some _ put) ge ⟨oc, vs, tk, Heap.get?_push_of_some _ hoc, hd, hv⟩
    have n1 : g2.objs.size ≠ c2 := Nat.ne_of_gt lt
    have n2 : g2.objs.size ≠ P := Nat.ne_of_gt (Nat.lt_of_lt_of_le (Heap.lt_size getP) big)
    refine go g2.objs.size c2 _ ct _ _ J2 (fun a ha => ?_) ⟨_, by rw [upd_ne nPc, upd_same], ?_, fun p2 v hv2 => ?_⟩ (Heap.get?_push_size _ rfl) ?_ (away _ big) upd_same
    · by_cases ea : a = c2
      · subst ea
        exact .inr ⟨new, _, upd_same⟩
      · exact .inl (by rw [upd_ne ea, upd_ne ha])
    · rw [show (tb ++ #[rawInt pos.line, rawInt pos.col, .ref c2]).toList = tb.toList ++ [rawInt pos.line, rawInt pos.col, .ref c2] by simp]
      exact PySem.TriplesOk_snoc _ _ _ _ tri
    · rw [show (tb ++ #[rawInt pos.line, rawInt pos.col, .ref c2]).toList = tb.toList ++ [rawInt pos.line, rawInt pos.col, .ref c2] by simp] at hv2
      rcases LamX.among_app _ tri hv2 with z | z
      · obtain ⟨c3, e1, e2⟩ := all p2 v z
        have n3 : c3 ≠ c2 := ne_of_none e2 new
        have n4 : c3 ≠ P := fun e => by
          rw [e, eP] at e2
          exact absurd (Option.some.inj e2).symm (LamX.codeO_ne _)
        exact ⟨c3, e1, by rw [upd_ne n3, upd_ne n4]; exact e2⟩
      · exact ⟨c2, z, upd_same⟩
    · rw [upd_ne n1, upd_ne n2]
      exact J.hok.fresh big
def tLamN (P : Addr) (q : Str) (TT : (XK → Hp → VK → Prop) → Hp → VK → Prop) (t : XK → TE) : TE := fun σ H Q => LamX.TabS H P q ∧ ∀ G, LamN P H G → LamX.TabS G P q → TT (fun E G' Q' => t E σ G' Q') G Q
/-- x(lambda: body), x a def that is in K -/
theorem pe_lamN {TT : (XK → Hp → VK → Prop) → Hp → VK → Prop} {x a q : Str} {gA c P : Addr} {k : Nat} {pg : Arguments} {bg : List Stmt} {sg : Scope} {dV kV doc pm cdv ct oc : Value} {an od : Option Addr} {osl : Array (Option Value)} {Ng : List Str}
    {params : Arguments} {body : Expr} {scope : Scope} {t : XK → TE} {p lpos pos : Pos} (hg : Gl X x) (hm : X.mg x = some (.ref gA)) (hk : PySem.W.keepIn X.K (.ref gA) = true)
    (lk : X.K.lookup gA = some ⟨oc, od, .func (PySem.W.fnOf x x pg bg sg dV kV doc pm an cdv ct), osl⟩) (hcg : PySem.W.codeIn X.K cdv x = true) (hb : L2.Binds X.K (PySem.W.fnOf x x pg bg sg dV kV doc pm an cdv ct) [a] []) (Sg : FnScope Ng [a] sg) (hNg : Ng[0]? = some a) (hva : Vis sg a)
    (eq : q = X.env.qual ++ "<lambda>") (hG : LamX.GivesTo X Ng x sg gA cdv bg a (X.env.qual ++ "<lambda>") TT)
    (TB : LamX.TabB X.base X.mg c P) (ec : X.env.code = .ref c) (hr : Room (k + 2) X.A) (L : LamX.LamS X.env.scope scope) (ed : defaultsOf params X.env = ([], []))
    (hbind : ∀ (q : Str) (cl : List (Str × Addr)) (pm cv ctv : Value), bindArgs (PySem.W.kla_fn "<lambda>" q params body scope cl pm cv ctv) ⟨[], []⟩ = pure [])
    (hbody : ∀ (A : Around) (outer : List Env) (s : Shared) (H : Hp) (E : XK) (f c' : Addr), Room k (A.deeper (LamX.lamEnv X scope s.heap.objs.size f c')) → PE (LamX.lamCx X A outer s H E scope f c') body (t E))
    (hdb : (x == ("__debug__" : Str)) = false := by decide) (hd : (a == ("__debug__" : Str)) = false := by decide) (hcd : (a == ("__classdict__" : Str)) = false := by decide) :
    PE X (.Call (.Name x p) [.Lambda params body scope lpos] [] pos) (tLamN P q TT t) := by
  refine ⟨fun pins u σ G Q J tt => ?_⟩
  obtain ⟨hT, tt⟩ := tt
  refine wpAny_Call_Name_kw (ld_glob J hg hm (PySem.W.callWith_K (h₀ := X.base) J.ok.mod.kin hk ?_ (by rfl) (by rfl)) hdb)
  show wpAny _ _ (spliced ((false, eval (.Lambda params body scope lpos) X.env) :: backTo pos (starEach [] X.env))) _ _ u
  refine Calls.spliced_cons (lam_mk J TB ec eq hT ed (L.has J.ok) fun f c2 pm2 ct2 G2 u2 J2 lN T2 hf hfn hfr hco => ?_)
  subst eq
  refine Calls.spliced_nil ⟨J2.kIn, ?_⟩
  have run : codeAny (model X.prog X.w) X.A (.call (.ref gA) ⟨[.ref f], []⟩) (CR C8.CX0 X.stack X.prog X.w G2 u2 Q C8.E0) u2 := by
    refine LamX.run_ofS (N := Ng) (ps := [a]) (us := [.ref f]) (vs := [.ref f]) lk hcg Sg hr J2.env0 (hb u2 [.ref f] J2.kIn rfl) (.cons rfl .nil) rfl fun hr2 => ?_
    obtain ⟨t', ht', hq'⟩ := hG f c2 u2 G2 Q (fun E H' Q' => t E σ H' Q') (fun W pn xe E p1 p2 tk hW => LamX.pe_act (i := 0) J2 L hf hfn hfr (hbind _ _ _ _ _) tk hW hr2 (fun A outer s H hr3 => hbody A outer s H E f c2 hr3) hNg hva hd hcd) hco (tt G2 lN T2)
    exact ⟨t', ht'.nox, hq'⟩
  refine wpAny_call (codeAny_mono run fun r u3 hq => ?_)
  cases r with
  | error e => exact (show False from hq).elim
  | ok fl =>
    cases fl with
    | ret v => exact J2.after hq
    | _ => exact False.elim hq
end
end Mv
set_option Elab.async false
set_option linter.all false
set_option maxRecDepth 100000
/-! Mv, part U: repr; the answers of clauses; the mirror of a lambda's call. -/
namespace Mv
open PySem PySem.Spec PyProof.Rows L2

/-! ### repr(data) -/
def rRepr (K : PySem.W.Frag) : List V → Hp → VK → Prop := fun xs H Q => ∃ v d, xs = [v] ∧ Dp K H v d ∧ d.showable = true ∧ d.hasDict = false ∧ d.depth ≤ 40 ∧ d.shown.length ≤ sizeLine ∧ Q (.str d.shown) H
theorem call_reprD {X : Cx} (hg : X.A.guards = some []) (hu : X.A.units + 64 < cLine) : CallR X (.builtin "repr") (rRepr X.K) := by
  intro pins s σ H xs us Q I r h
  obtain ⟨v, d, rfl, dp, h1, h2, h3, h4, q⟩ := h
  obtain ⟨u, rfl, ru⟩ := vals1 r
  obtain ⟨as, rd⟩ := Dp.reads I d v u dp ru
  have gd : PySem.PyData.hasDict d = true → sysModules ∉ as := fun z => by rw [h2] at z; cases z
  cases rd with
  | none => exact PySem.P.repr_of_none ⟨.str _, H, I.tok _, ⟨_, rfl⟩, q⟩
  | bool b => exact PySem.P.repr_of_bool ⟨.str _, H, I.tok _, ⟨_, rfl⟩, q⟩
  | int i t => exact PySem.P.repr_of_int (of_decide_eq_true h1) ⟨.str _, H, I.tok _, ⟨_, rfl⟩, q⟩
  | str x t => exact PySem.P.repr_of_str ⟨.str _, H, I.tok _, ⟨_, rfl⟩, q⟩ h4
  | list e1 e2 e3 e4 => exact repr_of_reads' (h₀ := s.heap) (.list e1 e2 e3 e4) h1 gd hg (by omega) (fun _ _ z => z) (fun h' u tk k => ⟨.str _, H, I.kept k, ⟨_, rfl⟩, q⟩) h4
  | tuple e1 e2 e3 e4 => exact repr_of_reads' (h₀ := s.heap) (.tuple e1 e2 e3 e4) h1 gd hg (by omega) (fun _ _ z => z) (fun h' u tk k => ⟨.str _, H, I.kept k, ⟨_, rfl⟩, q⟩) h4
  | dict e1 e2 e3 e4 e5 => cases dp
/-- the text of a value -/
def reprV (v : VV) : Option Str := (toPy v).bind fun d => if d.showable && (!d.hasDict && (Nat.ble d.depth 40 && Nat.ble d.shown.length 1000)) then some d.shown else none
theorem reprV_ok {K : PySem.W.Frag} {G : Nat → Addr} {w : Wd} {H : Hp} {v : VV} {y : V} {t : Str} {Q : VK} (e : reprV v = some t) (r : RV K G w H v y) (q : Q (.str t) H) : rRepr K [y] H Q := by
  unfold reprV at e
  obtain ⟨d, e1, e⟩ := Option.bind_eq_some_iff.mp e
  split at e
  · rename_i c
    cases e
    simp only [Bool.and_eq_true, Bool.not_eq_true'] at c
    obtain ⟨c1, c2, c3, c4⟩ := c
    have z := Nat.le_of_ble_eq_true c4
    exact ⟨y, d, rfl, toPy_ok _ _ _ e1 r, c1, c2, Nat.le_of_ble_eq_true c3, by rw [sizeLine_eq]; omega, q⟩
  · cases e
def reprF (vs : List VV) (h : VH) : Out VV := match vs with
  | [v] => (match reprV v with
    | some t => .ok (.str t) h
    | none => .bad)
  | _ => .bad
section
variable {X : Cx} {g : Gx} {W : WX} {e : Expr} {es : List Expr} {ma : MA} {p pos : Pos}
theorem re_repr (hgd : X.A.guards = some []) (hu : X.A.units + 64 < cLine) (hm : X.mg "repr" = none) (ha : RA X g W (e :: es) ma) (hg : Gl X "repr" := by rfl)
    (he : starEach (e :: es) X.env = (false, eval e X.env) :: starEach es X.env := by rfl) (hpl : (backTo pos (starEach es X.env)).any (·.1) = false := by rfl) :
    RE X g W (.Call (.Name "repr" p) (e :: es) [] pos) (callM reprF ma) :=
  pe_imp (pe_callB (call_reprD hgd hu) hg hm (by rfl) ha (he := he) (hpl := hpl)) fun σ H Q ⟨w, sv, h, rs, hk, pp⟩ => by
    refine seqG' rs hk pp fun w1 H1 h1 vs y e1 rs1 k1 r1 p1 => ?_
    unfold reprF at p1
    split at p1
    · rename_i v
      split at p1
      · rename_i t et
        simp only [relVs, RVs] at r1
        obtain ⟨z, r, rfl, r2, rfl⟩ := r1
        exact reprV_ok et r2 (p1.here k1 (by simp only [relV, RV]))
      · exact p1.elim
    · exact p1.elim
end
end Mv
set_option Elab.async false
set_option linter.all false
set_option maxRecDepth 100000
/-! Mv, part V: the call of a def with a lambda. -/
namespace Mv
open PySem PySem.Spec PyProof.Rows L2

/-! ### clauses' answers -/
inductive HK where
  | txt (s : Str) | rep (pre : Str) | nil | pair (m s : Str) | pairRep (m pre : Str)
def HK.mir : HK → Bool → Option VV → Option VV
  | .txt s, _, _ => some (.str s)
  | .rep pre, true, some v => (reprV v).bind fun t => if fits (pre.length + t.length) then some (.str (pre ++ t)) else none
  | .rep _, _, _ => none
  | .nil, _, _ => some .non
  | .pair m s, _, _ => some (.tup [.str m, .str s])
  | .pairRep m pre, true, some v => (reprV v).bind fun t => if fits (pre.length + t.length) then some (.tup [.str m, .str (pre ++ t)]) else none
  | .pairRep _ _, _, _ => none
/-- what stands behind the try -/
def HK.val : HK → Option VV
  | .txt s => some (.str s)
  | .nil => some .non
  | .pair m s => some (.tup [.str m, .str s])
  | _ => none
def HK.fd : HK → Hp → VK → Prop
  | .txt s => fun G Q => Q (.str s) G
  | .nil => fun G Q => Q .non G
  | .pair m s => fun G Q => ∀ a, G a = none → Q (.ref a) (upd G a (.tup [.str m, .str s]))
  | _ => fun _ _ => False
def hmGo (exm : Nat → Nat → Option Bool) : List (Nat × HK) → Exn → Option VV
  | [], _ => none
  | p :: l, x => match exm x.c p.1 with
    | some true => p.2.mir (decide (x.c = p.1)) x.pay
    | some false => hmGo exm l x
    | none => none
def HK.rd (K : PySem.W.Frag) (C : Addr) (f : Str) : HK → HR
  | .txt s => fun _ _ H Q => Q (.str s) H
  | .rep pre => fun cls d H Q => cls = .ref C ∧ ∃ (dd : Addr) (fs : List (Str × V)) (v : V), d = some dd ∧ H dd = some (.xd fs) ∧ fs.lookup f = some v ∧ rRepr K [v] H fun y H1 => ∃ t, y = .str t ∧ pre.length + t.length ≤ sizeLine ∧ Q (.str (pre ++ t)) H1
  | .nil => fun _ _ H Q => Q .non H
  | .pair m s => fun _ _ H Q => ∀ a, H a = none → Q (.ref a) (upd H a (.tup [.str m, .str s]))
  | .pairRep m pre => fun cls d H Q => cls = .ref C ∧ ∃ (dd : Addr) (fs : List (Str × V)) (v : V), d = some dd ∧ H dd = some (.xd fs) ∧ fs.lookup f = some v ∧ rRepr K [v] H fun y H1 => ∃ t, y = .str t ∧ pre.length + t.length ≤ sizeLine ∧ ∀ a, H1 a = none → Q (.ref a) (upd H1 a (.tup [.str m, .str (pre ++ t)]))
def hlOf (K : PySem.W.Frag) (g : Gx) (hs : List (Nat × HK)) : List (Value × HR) := hs.map fun p => (.ref (g.adr p.1), p.2.rd K (g.adr p.1) (g.fld p.1))
/-- what is known of who catches whom -/
def ExmOk (K : PySem.W.Frag) (g : Gx) (exm : Nat → Nat → Option Bool) : Prop := ∀ c c' b, exm c c' = some b → PySem.W.exmOne K (.ref (g.adr c)) (.ref (g.adr c')) = some b
theorem rv_pair {K : PySem.W.Frag} {g : Gx} {w : Wd} {H : Hp} {h : VH} {a : Addr} {m s : Str} (k : Hk K g.adr w h H) (ha : H a = none) : RV K g.adr w (upd H a (.tup [.str m, .str s])) (.tup [.str m, .str s]) (.ref a) := by
  simp only [RV, RVs]
  exact ⟨a, [.str m, .str s], rfl, ⟨upd_same, k.fresh ha⟩, _, _, rfl, rfl, _, _, rfl, rfl, rfl⟩
theorem hm_ok {K : PySem.W.Frag} {g : Gx} {w : Wd} {H : Hp} {h : VH} {exm : Nat → Nat → Option Bool} {x : Exn} {v : VV} {cls : Value} {d : Option Addr} {Q : VK} (EX : ExmOk K g exm) (k : Hk K g.adr w h H) (rx : RX K g w H x cls d)
    (p : ∀ w' H' y, Ext w H w' H' → Hk K g.adr w' h H' → RV K g.adr w' H' v y → Q y H') : ∀ {hs : List (Nat × HK)}, hmGo exm hs x = some v → hw K (hlOf K g hs) Q cls d H
  | [], e => by cases e
  | t :: l, e => by
    unfold hmGo at e
    obtain ⟨ec, rp⟩ := rx
    cases q : exm x.c t.1 with
    | none => rw [q] at e; cases e
    | some b =>
      rw [q] at e
      refine ⟨b, by rw [ec]; exact EX _ _ _ q, fun eb => ?_, fun eb => ?_⟩
      · subst eb
        obtain ⟨c, kd⟩ := t
        cases kd with
        | txt s =>
          simp only [HK.mir, Option.some.injEq] at e
          subst e
          exact p w H _ (Ext.refl _ _) k (by simp only [RV])
        | nil =>
          simp only [HK.mir, Option.some.injEq] at e
          subst e
          exact p w H _ (Ext.refl _ _) k (by simp only [RV])
        | pair m s =>
          simp only [HK.mir, Option.some.injEq] at e
          subst e
          exact fun a ha => p w _ (.ref a) (Ext.grow k ha) (Hk.grow k ha) (rv_pair k ha)
        | rep pre =>
          cases ep : x.pay with
          | none =>
            rw [ep] at e
            cases ed : decide (x.c = c) <;> simp only [ed, HK.mir] at e <;> cases e
          | some pv =>
            rw [ep] at e rp
            obtain ⟨dd, y, h1, h2, _, h4⟩ := rp
            by_cases eq : x.c = c
            · subst eq
              simp only [decide_true, HK.mir] at e
              obtain ⟨t, e1, e2⟩ := Option.bind_eq_some_iff.mp e
              split at e2
              · rename_i hf
                cases e2
                refine ⟨ec, dd, _, y, h1, h2, ?_, reprV_ok e1 h4 ⟨t, rfl, fits_le hf, p w H _ (Ext.refl _ _) k (by simp only [RV])⟩⟩
                simp [List.lookup]
              · cases e2
            · simp only [decide_eq_false eq, HK.mir] at e
              cases e
        | pairRep m pre =>
          cases ep : x.pay with
          | none =>
            rw [ep] at e
            cases ed : decide (x.c = c) <;> simp only [ed, HK.mir] at e <;> cases e
          | some pv =>
            rw [ep] at e rp
            obtain ⟨dd, y, h1, h2, _, h4⟩ := rp
            by_cases eq : x.c = c
            · subst eq
              simp only [decide_true, HK.mir] at e
              obtain ⟨t, e1, e2⟩ := Option.bind_eq_some_iff.mp e
              split at e2
              · rename_i hf
                cases e2
                refine ⟨ec, dd, _, y, h1, h2, ?_, reprV_ok e1 h4 ⟨t, rfl, fits_le hf, fun a ha => p w _ (.ref a) (Ext.grow k ha) (Hk.grow k ha) (rv_pair k ha)⟩⟩
                simp [List.lookup]
              · cases e2
            · simp only [decide_eq_false eq, HK.mir] at e
              cases e
      · subst eb
        exact hm_ok EX k ⟨ec, rp⟩ p e
section
variable {Y : Cx} {K : PySem.W.Frag} {C a : Addr} {oe : Obj} {cls : Value} {d : Option Addr} {pn : List (Addr × Obj)} {f s pre y : Str} {i j : Nat} {p p1 p2 p3 p4 p5 p6 : Pos}
theorem hd_txt : PE (Y.suite a ((a, oe) :: pn)) (.Constant (.str s) j p) (fun _ H Q => (HK.txt s).rd K C f cls d H Q) := pe_imp pe_str fun _ _ _ q => q
theorem hd_rep (hgd : Y.A.guards = some []) (hu : Y.A.units + 64 < cLine) (T : XfC Y.K C) (no : PySem.W.findIn Y.K (.ref C) f = some none) (hz : Zc cls d oe) (hf : ∃ fs, oe.data = .fields fs) (hi : Y.N[i]? = some y) (hl : Y.env.kindOf y = some .local)
    (hm : Y.mg "repr" = none) (hg : Gl Y "repr" := by rfl) (hb : attributeBase (.Name y p3) f Y.env (eval (.Name y p3) Y.env) = eval (.Name y p3) Y.env := by rfl) (hdb : (y == ("__debug__" : Str)) = false := by decide) (hcd : (y == ("__classdict__" : Str)) = false := by decide)
    (he : starEach [.Attribute (.Name y p3) f p4] Y.env = [(false, eval (.Attribute (.Name y p3) f p4) Y.env)] := by rfl) :
    PE (Y.suite a ((a, oe) :: pn)) (.BinOp (.Constant (.str pre) j p1) .Add (.Call (.Name "repr" p2) [.Attribute (.Name y p3) f p4] [] p5) p6) (fun σ H Q => σ[i]? = some (some (.ref a)) ∧ (HK.rep pre).rd Y.K C f cls d H Q) := by
  have nm : PE (Y.suite a ((a, oe) :: pn)) (.Name y p3) (tVar i) := pe_var hi (.inl hl) hdb hcd
  have at_ := pe_xf (X := Y) (pos := p4) T no hz hf nm hb
  have cl := pe_callB (X := Y.suite a ((a, oe) :: pn)) (p := p2) (pos := p5) (call_reprD (X := Y.suite a ((a, oe) :: pn)) hgd hu) hg hm (by rfl) (pa_cons at_ pa_nil) (he := by rw [he]; rfl) (hpl := by rfl)
  refine pe_imp (pe_op (pos := p6) op_addA pe_str cl) fun σ H Q ⟨h0, ec, dd, fs, v, e1, e2, e3, q⟩ => ?_
  refine ⟨_, h0, rfl, ec, dd, fs, v, e1, e2, e3, ?_⟩
  obtain ⟨v', dt, ev, c1, c2, c3, c4, c5, t, et, le, q⟩ := q
  cases ev
  refine ⟨v, dt, rfl, c1, c2, c3, c4, c5, ?_⟩
  cases et
  exact .inr (.inr (.inr (.inr ⟨_, _, rfl, rfl, le, q⟩)))
theorem hd_pair {m : Str} {k : Nat} : PE (Y.suite a ((a, oe) :: pn)) (.Tuple [.Constant (.str m) i p1, .Constant (.str s) j p2] k p3) (fun _ H Q => (HK.pair m s).rd K C f cls d H Q) :=
  pe_imp (pe_tup (pa_cons pe_str (pa_cons pe_str pa_nil))) fun _ _ _ q => ⟨by simp [sizeLine_eq], q⟩
theorem hd_pairRep {m : Str} {kk ii : Nat} (hgd : Y.A.guards = some []) (hu : Y.A.units + 64 < cLine) (T : XfC Y.K C) (no : PySem.W.findIn Y.K (.ref C) f = some none) (hz : Zc cls d oe) (hf : ∃ fs, oe.data = .fields fs) (hi : Y.N[i]? = some y) (hl : Y.env.kindOf y = some .local)
    (hm : Y.mg "repr" = none) {q1 q2 : Pos} (hg : Gl Y "repr" := by rfl) (hb : attributeBase (.Name y p3) f Y.env (eval (.Name y p3) Y.env) = eval (.Name y p3) Y.env := by rfl) (hdb : (y == ("__debug__" : Str)) = false := by decide) (hcd : (y == ("__classdict__" : Str)) = false := by decide)
    (he : starEach [.Attribute (.Name y p3) f p4] Y.env = [(false, eval (.Attribute (.Name y p3) f p4) Y.env)] := by rfl) :
    PE (Y.suite a ((a, oe) :: pn)) (.Tuple [.Constant (.str m) ii q1, .BinOp (.Constant (.str pre) j p1) .Add (.Call (.Name "repr" p2) [.Attribute (.Name y p3) f p4] [] p5) p6] kk q2) (fun σ H Q => σ[i]? = some (some (.ref a)) ∧ (HK.pairRep m pre).rd Y.K C f cls d H Q) :=
  pe_imp (pe_tup (pa_cons pe_str (pa_cons (hd_rep (p1 := p1) (p2 := p2) (p3 := p3) (p4 := p4) (p5 := p5) (p6 := p6) (pre := pre) hgd hu T no hz hf hi hl hm hg hb hdb hcd he) pa_nil))) fun σ H Q ⟨h0, ec, dd, fs, v, e1, e2, e3, q⟩ => by
    refine ⟨h0, ec, dd, fs, v, e1, e2, e3, ?_⟩
    obtain ⟨v', dt, ev, c1, c2, c3, c4, c5, t, et, le, q⟩ := q
    exact ⟨v', dt, ev, c1, c2, c3, c4, c5, t, et, le, by simp [sizeLine_eq], q⟩
theorem hd_nil : PE (Y.suite a ((a, oe) :: pn)) (.Constant .none j p) (fun _ H Q => HK.nil.rd K C f cls d H Q) := pe_imp pe_non fun _ _ _ q => q
end
section
variable {X : Cx} {s m : Str} {j j2 k : Nat} {p p1 p2 : Pos}
theorem fd_txt : PE X (.Constant (.str s) j p) (fun _ G Q => (HK.txt s).fd G Q) := pe_imp pe_str fun _ _ _ q => q
theorem fd_nil : PE X (.Constant .none j p) (fun _ G Q => HK.nil.fd G Q) := pe_imp pe_non fun _ _ _ q => q
theorem fd_pair : PE X (.Tuple [.Constant (.str m) j p1, .Constant (.str s) j2 p2] k p) (fun _ G Q => (HK.pair m s).fd G Q) :=
  pe_imp (pe_tup (pa_cons pe_str (pa_cons pe_str pa_nil))) fun _ _ _ q => ⟨by simp [sizeLine_eq], q⟩
end

/-! ### the call -/
def lamM (i n : Nat) (q : Str) (fin : HK) (exm : Nat → Nat → Option Bool) (hs : List (Nat × HK)) (m : ME) : ME := fun sv h => match h[i]? with
  | some (.tbl n' q') => if n' = n ∧ q' = q then (match m sv h with
    | .ok _ h1 => (match fin.val with
      | some v => .ok v h1
      | none => .bad)
    | .exc x h1 => (match hmGo exm hs x with
      | some v => .ok v h1
      | none => .bad)
    | .bad => .bad) else .bad
  | _ => .bad
section
variable {X : Cx} {g : Gx} {W : WX}
theorem re_met {exm : Nat → Nat → Option Bool} {hs : List (Nat × HK)} {fin : HK} {q x a : Str} {ef : Expr} {ti n : Nat} {gA c : Addr} {k : Nat} {pg : Arguments} {bg : List Stmt} {sg : Scope} {dvs : List V} {kws : List (Str × V)} {fd : FuncData} {Ng : List Str} {h0 : ExceptHandler} {hds : List ExceptHandler}
    {params : Arguments} {body : Expr} {scope : Scope} {m : ME} {p lpos pos p1 p2 p3 p4 p5 : Pos} (EX : ExmOk X.K g exm) (hm : X.mg x = some (.ref gA)) (F : FunD X.K x x pg bg sg dvs kws gA fd) (B : Binds X.K fd [a] []) (Sg : FnScope Ng [a] sg)
    (hh : ∀ (cdg : Value) (s : Shared) (H : Hp), HdR (cxOf C8.CX0 X.prog X.w X.K X.mg X.base Ng x sg gA cdg X.A X.stack s H C8.E0).nox (h0 :: hds) (hlOf X.K g hs))
    (eb : bg = [.Try [.Expr (.Call (.Name a p1) [] [] p2) p3] (h0 :: hds) [] [] p4, .Return (some ef) p5]) (hfin : ∀ (cdg : Value) (s : Shared) (H : Hp), PE (cxOf C8.CX0 X.prog X.w X.K X.mg X.base Ng x sg gA cdg X.A X.stack s H C8.E0).nox ef (fun _ G Q => fin.fd G Q)) (st0 : ∀ f : Addr, (L2.start Ng [V.ref f])[0]? = some (some (V.ref f)))
    (hNg : Ng[0]? = some a) (hva : Vis sg a)
    (TB : LamX.TabB X.base X.mg c (g.adr n)) (ec : X.env.code = .ref c) (eq : q = X.env.qual ++ "<lambda>") (hr : Room (k + 2) X.A) (L : LamX.LamS X.env.scope scope) (ed : defaultsOf params X.env = ([], []))
    (hbind : ∀ (q : Str) (cl : List (Str × Addr)) (pm cv ctv : Value), bindArgs (PySem.W.kla_fn "<lambda>" q params body scope cl pm cv ctv) ⟨[], []⟩ = pure [])
    (hbody : ∀ (A : Around) (outer : List Env) (s : Shared) (H : Hp) (E : XK) (f c' : Addr), Room k (A.deeper (LamX.lamEnv X scope s.heap.objs.size f c')) → RE (LamX.lamCx X A outer s H E scope f c') g (WK E) body m)
    (hg : Gl X x := by rfl) (hdb : (x == ("__debug__" : Str)) = false := by decide) (hd : (a == ("__debug__" : Str)) = false := by decide) (hcd : (a == ("__classdict__" : Str)) = false := by decide) :
    RE X g W (.Call (.Name x p) [.Lambda params body scope lpos] [] pos) (lamM ti n q fin exm hs m) := by
  subst eb
  obtain ⟨oc, od, dV, kV, doc, pm, an, cdv, ct, osl, rfl, lk, hcg, _, _⟩ := F.ex
  have hG : LamX.GivesTo X Ng x sg gA cdv [.Try [.Expr (.Call (.Name a p1) [] [] p2) p3] (h0 :: hds) [] [] p4, .Return (some ef) p5] a (X.env.qual ++ "<lambda>") (TTm X.K (hlOf X.K g hs) fun G Q => fin.fd G Q) :=
    met_gives (p1 := p1) (p2 := p2) (p3 := p3) (p4 := p4) (p5 := p5) Sg.nd (fun s H => hh cdv s H) (fun s H => hfin cdv s H) st0
  refine pe_imp (pe_lamN (t := fun E => tG X.K g (relV X.K g) m (WK E)) hg hm F.kp lk hcg B Sg hNg hva eq hG TB ec hr L ed hbind hbody hdb hd hcd) fun σ H Q ⟨w, sv, h, rs, hk, pp⟩ => ?_
  unfold lamM at pp
  split at pp
  · rename_i n' q' eh
    split at pp
    · rename_i c
      obtain ⟨rfl, rfl⟩ := c
      obtain ⟨hi, tw⟩ := tab_at hk eh
      have t1 : LamX.TabS H (g.adr n') q' := by
        obtain ⟨ps, h1, h2, h3⟩ := tw
        exact ⟨ps, h1, h2, fun pos cv z => by
          obtain ⟨c, e1, e2, _⟩ := h3 pos cv z
          exact ⟨c, e1, e2⟩⟩
      refine ⟨t1, fun G lN t2 => ?_⟩
      have ex := lam_ext hk lN (List.mem_of_getElem? hi)
      refine ⟨w, sv, h, rs.mono _ _ ex.sees, lam_hk hk eh lN t2, ?_⟩
      cases em : m sv h with
      | ok v h1 =>
        rw [em] at pp
        dsimp only at pp
        intro w2 H2 y e2 k2 _
        cases fin with
        | txt s => exact pp w2 H2 (.str s) (ex.trans e2) k2 (by simp only [relV, RV])
        | nil => exact pp w2 H2 .non (ex.trans e2) k2 (by simp only [relV, RV])
        | pair m s => exact fun a ha => pp w2 _ (.ref a) ((ex.trans e2).trans (Ext.grow k2 ha)) (Hk.grow k2 ha) (rv_pair k2 ha)
        | rep _ => exact pp.elim
        | pairRep _ _ => exact pp.elim
      | exc x h1 =>
        rw [em] at pp
        intro w2 H2 cls d e2 k2 rx
        dsimp only at pp
        cases eh2 : hmGo exm hs x with
        | none =>
          rw [eh2] at pp
          exact pp.elim
        | some v =>
          rw [eh2] at pp
          exact hm_ok EX k2 rx (fun w3 H3 y e3 k3 ry => pp w3 H3 y ((ex.trans e2).trans e3) k3 ry) eh2
      | bad =>
        rw [em] at pp
        exact pp.elim
    · exact pp.elim
  · exact pp.elim
end
end Mv
set_option Elab.async false
set_option linter.all false
set_option maxRecDepth 100000
/-! Mv, part W: defs run where no repr is under way; calls of defs that a name holds. -/
namespace Mv
open PySem PySem.Spec PyProof.Rows L2

/-- a promise given where no repr is under way -/
structure FnG (P : Program) (w : World) (K : PySem.W.Frag) (mg : Str → Option Value) (base : Heap) (k : Nat) (f : Addr) (fd : FuncData) (ps : List Str) (sp : Sp) : Prop where
  len : ∀ vs H Q E, sp vs H Q E → vs.length = ps.length
  run : ∀ (A : Around) (outer : List Env) (s : Shared) (H : Hp) (args : Args) (us : List Value) (vs : List V) (Q : VK) (E : XK), A.guards = some [] → Room k A → Env0 P w K mg base A outer s H → BindsTo s fd args (ps.zip us) → Vals vs us → sp vs H Q E →
    codeAny (model P w) A (.call (.ref f) args) (CR (L2.CX P w) outer P w H s Q E) s
theorem FnG.mono {P : Program} {w : World} {K : PySem.W.Frag} {mg : Str → Option Value} {base : Heap} {j k : Nat} {f : Addr} {fd : FuncData} {ps : List Str} {sp : Sp} (F : FnG P w K mg base j f fd ps sp) (h : j ≤ k) : FnG P w K mg base k f fd ps sp :=
  ⟨F.len, fun A outer s H args us vs Q E hg hr => F.run A outer s H args us vs Q E hg (hr.mono h)⟩
/-- the def at p of the text keeps its mirror; its code object is known -/
theorem fnG_ok {P : Program} {w : World} {K : PySem.W.Frag} {mg : Str → Option Value} {base : Heap} {g : Gx} {x qual : Str} {params : Arguments} {body : List Stmt} {scope : Scope} {dvs : List V} {kws : List (Str × V)} {p : Str × Option Str} {fd : FuncData} {N ps : List Str} {k n np : Nat} {m : MS}
    (F : FunD K x qual params body scope dvs kws (He.fAd K p) fd) (S : FnScope N ps scope) (hn : N.length = n) (hp : ps.length = np)
    (hb : ∀ (A : Around) (outer : List Env) (s : Shared) (H : Hp) (E : XK), A.guards = some [] → Room k (A.deeper (envOfC qual scope s.heap.objs.size (He.fAd K p) (.ref (He.codeOf K p)))) →
      RSs (cxOf (L2.CX P w) P w K mg base N qual scope (He.fAd K p) (.ref (He.codeOf K p)) A outer s H E) g (WK E) body m) :
    FnG P w K mg base (k + 1) (He.fAd K p) fd ps (spM K g (fnM n np m)) := by
  have hle : np ≤ n := by
    have := S.pre
    rw [← hn, ← hp, ← this, List.length_take]
    omega
  have lenx : ∀ {w H Q} {W : WX} {xs : List VV} {h : VH}, Post K g (relV K g) w H [] Q W (fnM n np m xs h) → xs.length = np := fun {w H Q W xs h} p => by
    unfold fnM at p
    split at p
    · assumption
    · exact p.elim
  obtain ⟨oc, od, dV, kV, doc, pm, an, cdv, ct, osl, efd, lk, hcd, _, _⟩ := F.ex
  subst efd
  obtain ⟨c, rfl⟩ := He.codeIn_ref hcd
  have ec : He.codeOf K p = c := He.codeOf_eq lk rfl
  rw [ec] at hb
  refine ⟨fun vs H Q E ⟨w1, h, xs, k1, r, p⟩ => by rw [← r.length, hp]; exact lenx p, fun A outer s H args us vs Q E hgd hr e0 b rv ⟨w1, h, xs, k1, r, p⟩ => ?_⟩
  have hl := lenx p
  refine LamX.run_ofS lk hcd S hr e0 b rv (by rw [← r.length, hl, hp]) fun hr2 => ⟨_, hb A outer s H E hgd hr2, ?_⟩
  refine ⟨w1.in n, startS n np xs, h, RF.start hn hl hle r, k1.in, ?_⟩
  unfold fnM at p
  rw [if_pos hl] at p
  split at p
  · rename_i sl1 h1 e
    rw [e]
    exact fun w' H' σ' e1 k2 f1 => p (w'.back w1) H' .non (back_ext e1) (k1.back e1 k2) (by simp only [relV, RV])
  · rename_i v h1 e
    rw [e]
    exact fun w' H' y e1 k2 r1 => p (w'.back w1) H' y (back_ext e1) (k1.back e1 k2) (RV.mono (back_sees e1.P) _ _ r1)
  · rename_i ex sl1 h1 e
    rw [e]
    exact fun w' H' σ' cls d e1 k2 f1 r1 => p (w'.back w1) H' cls d (back_ext e1) (k1.back e1 k2) (r1.back e1.P)
  · exact p.elim
/-- such a def, under what TB tells of the ground -/
def OkG (P : Program) (w : World) (K : PySem.W.Frag) (mg : Str → Option Value) (g : Gx) (TB : Heap → Prop) (k : Nat) (f : Addr) (ps : List Str) (mf : MF) : Prop :=
  ∃ fd, (∀ base : Heap, TB base → FnG P w K mg base k f fd ps (spM K g mf)) ∧ Binds K fd ps [] ∧ PySem.W.keepIn K (.ref f) = true ∧ ∀ (s : Shared) (us : List Value), us.length = ps.length → BindsTo s fd ⟨us, []⟩ (ps.zip us)
section
variable {X : Cx} {g : Gx} {W : WX} {e : Expr} {es : List Expr} {t : TA} {ma : MA} {p pos : Pos} {x : Str} {i j k : Nat} {f : Addr} {fd : FuncData} {ps : List Str} {sp : Sp} {mf : MF} {TB : Heap → Prop}
theorem pe_callG (F : FnG X.prog X.w X.K X.mg X.base k f fd ps sp) (hgd : X.A.guards = some []) (hr : Room k X.A) (hg : Gl X x) (hm : X.mg x = some (.ref f)) (hk : PySem.W.keepIn X.K (.ref f) = true) (hb : Binds X.K fd ps []) (tk : Takes X W)
    (ha : PA X (e :: es) t) (hdb : (x == ("__debug__" : Str)) = false := by decide) (he : starEach (e :: es) X.env = (false, eval e X.env) :: starEach es X.env := by rfl) (hpl : (backTo pos (starEach es X.env)).any (·.1) = false := by rfl) :
    PE X (.Call (.Name x p) (e :: es) [] pos) (tCallS sp (WE W) t) := by
  refine ⟨fun pins s σ H Q I h => wpAny_Call_Name_kw (ld_glob I hg hm (PySem.W.callWith_K (h₀ := X.base) I.ok.mod.kin hk (thn (ha.run pos pins s σ H _ I h) fun us s1 ⟨vs, H1, I1, r, q⟩ => ⟨I1.kIn, ?_⟩) he hpl) hdb)⟩
  have hl : us.length = ps.length := by rw [← r.length]; exact F.len _ _ _ _ q
  have b := hb s1 us I1.kIn (by rw [List.append_nil]; exact hl)
  rw [List.append_nil] at b
  refine wpAny_call (codeAny_mono (F.run X.A X.stack s1 H1 ⟨us, []⟩ us vs Q (WE W σ) hgd hr I1.env0 b r q) fun r2 s2 hq => ?_)
  cases r2 with
  | error e => exact passAt tk σ pins H1 s1 e s2 I1 hq
  | ok fl =>
    cases fl with
    | ret u => exact I1.after hq
    | _ => exact False.elim hq
theorem callF_imp {E : L2.St → XK} (hE : E = WE W) {σ : L2.St} {H : Hp} {Q : VK} (tt : tG X.K g (relV X.K g) (callF mf ma) W σ H Q) : tCallS (spM X.K g mf) E (tG X.K g (relVs X.K g) ma W) σ H Q := by
  subst hE
  obtain ⟨w, sv, h, rs, hk, pp⟩ := tt
  refine seqG' rs hk pp fun w1 H1 h1 vs y e1 rs1 k1 r1 p1 => ?_
  refine ⟨w1, h1, vs, k1, r1, ?_⟩
  cases q : mf vs h1 with
  | ok v h2 => rw [q] at p1; exact p1
  | exc x h2 => rw [q] at p1; exact p1
  | bad => rw [q] at p1; exact p1
theorem re_callG (F : OkG X.prog X.w X.K X.mg g TB j f ps mf) (tb : TB X.base) (hgd : X.A.guards = some []) (hr : Room k X.A) (hm : X.mg x = some (.ref f)) (tk : Takes X W) (ha : RA X g W (e :: es) ma) (hj : j ≤ k := by omega) (hg : Gl X x := by rfl)
    (hdb : (x == ("__debug__" : Str)) = false := by decide) (he : starEach (e :: es) X.env = (false, eval e X.env) :: starEach es X.env := by rfl) (hpl : (backTo pos (starEach es X.env)).any (·.1) = false := by rfl) :
    RE X g W (.Call (.Name x p) (e :: es) [] pos) (callF mf ma) := by
  obtain ⟨fd, F, B, kp, _⟩ := F
  exact pe_imp (pe_callG (((F X.base tb).mono hj)) hgd hr hg hm kp B tk ha hdb he hpl) fun σ H Q tt => callF_imp rfl tt

/-! ### a name that holds a def -/
def callVM (tab : List (Nat × MF)) (i : Nat) (a : MA) : ME := fun sv h => match sv[i]? with
  | some (some (.adr n)) => (match tab.lookup n with
    | some mf => (a sv h).bind fun vs h1 => mf vs h1
    | none => .bad)
  | _ => .bad
/-- what is known of the defs that it may be -/
def TabV (P : Program) (w : World) (K : PySem.W.Frag) (mg : Str → Option Value) (g : Gx) (k : Nat) (tab : List (Nat × MF)) : Prop := ∀ n mf, tab.lookup n = some mf → ∃ ps, OkF P w K mg g k (g.adr n) ps mf
theorem tabV_nil {P : Program} {w : World} {K : PySem.W.Frag} {mg : Str → Option Value} {k : Nat} : TabV P w K mg g k [] := fun n mf e => by cases e
theorem tabV_cons {P : Program} {w : World} {K : PySem.W.Frag} {mg : Str → Option Value} {j k n : Nat} {mf : MF} {tab : List (Nat × MF)} {f : Addr} {ps : List Str} (F : OkF P w K mg g j f ps mf) (r : TabV P w K mg g k tab) (hf : f = g.adr n := by rfl) (hj : j ≤ k := by omega) : TabV P w K mg g k ((n, mf) :: tab) := fun n2 mf2 e => by
  subst hf
  rw [List.lookup_cons] at e
  split at e
  · rename_i q
    cases e
    have : n2 = n := by simpa using q
    subst this
    obtain ⟨fd, F, B, kp, b⟩ := F
    exact ⟨ps, fd, fun base => (F base).mono hj, B, kp, b⟩
  · exact r n2 mf2 e
theorem re_callV {tab : List (Nat × MF)} (T : TabV X.prog X.w X.K X.mg g j tab) (hr : Room k X.A) (tk : Takes X W) (i : Nat) (ha : RA X g W (e :: es) ma) (hN : X.N[i]? = some x := by rfl) (hv : Vis X.env.scope x := by first | exact Or.inl rfl | exact Or.inr (Or.inl rfl) | exact Or.inr (Or.inr rfl)) (hj : j ≤ k := by omega)
    (hd : (x == ("__debug__" : Str)) = false := by decide) (hcd : (x == ("__classdict__" : Str)) = false := by decide) (he : starEach (e :: es) X.env = (false, eval e X.env) :: starEach es X.env := by rfl) (hpl : (backTo pos (starEach es X.env)).any (·.1) = false := by rfl) :
    RE X g W (.Call (.Name x p) (e :: es) [] pos) (callVM tab i ma) := by
  refine ⟨fun pins s σ H Q I tt => ?_⟩
  obtain ⟨w, sv, h, rs, hk, pp⟩ := tt
  unfold callVM at pp
  split at pp
  · rename_i n en
    split at pp
    · rename_i mf emf
      obtain ⟨ps, fd, F, B, kp, _⟩ := T n mf emf
      obtain ⟨y, ey, ry⟩ := rs.get i _ en
      simp only [RV] at ry
      subst ry
      have hc := callF_imp (E := WE W) (mf := mf) (X := X) (g := g) rfl ⟨w, sv, h, rs, hk, pp⟩
      refine wpAny_Call_Name_kw (thn ((pe_var (pos := p) hN hv hd hcd).run pins s σ H (fun v H1 => v = .ref (g.adr n) ∧ H1 = H) I ⟨_, ey, rfl, rfl⟩) fun u s1 ⟨v, H1, I1, r1, q1⟩ => ?_)
      obtain ⟨rfl, rfl⟩ := q1
      cases r1
      exact PySem.W.callWith_K (h₀ := X.base) I.ok.mod.kin kp (thn (ha.run pos pins s1 σ _ _ I1 hc) fun us s2 ⟨vs, H2, I2, r, q⟩ => ⟨I2.kIn, run_fnS (E := WE W) ((F X.base).mono hj) hr B (passAt tk σ) I2 r q⟩) he hpl
    · exact pp.elim
  · exact pp.elim
end
end Mv
set_option Elab.async false
set_option linter.all false
set_option maxRecDepth 100000
/-! Mv, part X: own errors whose __init__ says super().__init__(f); self.f = f. -/
namespace Mv
open PySem PySem.W PySem.Calls PySem.Spec PyProof.Rows

/-! ### the text of such an __init__ -/
def iArg (f : Str) (p1 p2 : Pos) : Arguments := { posonlyargs := [], args := [{ arg := "self", annotation := none, pos := p1 }, { arg := f, annotation := none, pos := p2 }], vararg := none, kwonlyargs := [], kw_defaults := [], kwarg := none, defaults := [] }
def iBody (f : Str) (q : Nat → Pos) : List Stmt := [.Expr (.Call (.Attribute (.Call (.Name "super" (q 0)) [] [] (q 1)) "__init__" (q 2)) [.Name f (q 3)] [] (q 4)) (q 5), .Assign [.Attribute (.Name "self" (q 6)) f (q 7)] (.Name f (q 8)) (q 9)]
def iSc (f : Str) : Scope := { kind := .function, names := [("self", .local), (f, .local), ("__class__", .free), ("super", .globalImplicit)], isGenerator := false, isCoroutine := false, more := [] }
def isArg (f : Str) : Arguments → Bool
  | ⟨[], [⟨a, none, _⟩, ⟨b, none, _⟩], none, [], [], none, []⟩ => decide (a = "self") && decide (b = f)
  | _ => false
theorem isArg_ok {f : Str} {a : Arguments} (h : isArg f a = true) : ∃ p1 p2, a = iArg f p1 p2 := by
  unfold isArg at h
  split at h
  · simp only [Bool.and_eq_true, decide_eq_true_eq] at h
    obtain ⟨rfl, rfl⟩ := h
    exact ⟨_, _, rfl⟩
  · cases h
def isBody (f : Str) (q : Nat → Pos) : FuncBody → Bool
  | .stmts [.Expr (.Call (.Attribute (.Call (.Name a q0) [] [] q1) b q2) [.Name c q3] [] q4) q5, .Assign [.Attribute (.Name d q6) e q7] (.Name g q8) q9] => decide (a = "super") && (decide (b = "__init__") && (decide (c = f) && (decide (d = "self") && (decide (e = f) && (decide (g = f) &&
    decide ([q0, q1, q2, q3, q4, q5, q6, q7, q8, q9] = [q 0, q 1, q 2, q 3, q 4, q 5, q 6, q 7, q 8, q 9]))))))
  | _ => false
theorem isBody_ok {f : Str} {q : Nat → Pos} {b : FuncBody} (h : isBody f q b = true) : b = .stmts (iBody f q) := by
  unfold isBody at h
  split at h
  · rename_i a q0 q1 b q2 c q3 q4 q5 d q6 e q7 g q8 q9
    simp only [Bool.and_eq_true, decide_eq_true_eq] at h
    obtain ⟨rfl, rfl, rfl, rfl, rfl, rfl, h⟩ := h
    simp only [List.cons.injEq] at h
    obtain ⟨rfl, rfl, rfl, rfl, rfl, rfl, rfl, rfl, rfl, rfl, _⟩ := h
    rfl
  · cases h
/-- a field's name that is no other name of that def -/
structure FldOk (f : Str) : Prop where
  ne : f ≠ "self"
  own : (iSc f).names.lookup f = some .local
  sup : (iSc f).names.lookup ("super" : Str) = some .globalImplicit
  cls : (iSc f).names.lookup ("__class__" : Str) = some .free
  dbg : (f == ("__debug__" : Str)) = false
/-- what the head tells of such a class, at C -/
structure NumX (prog : Program) (K : Frag) (C : Addr) (f : Str) (q : Nat → Pos) : Prop where
  fI : ∃ fA cc cda : Addr, ∃ (oc : Value) (od : Option Addr) (doc pm : Value) (an : Option Addr) (ct : Value) (osl : Array (Option Value)) (qual : Str) (p1 p2 : Pos),
    K.lookup fA = some ⟨oc, od, .func (ksFn "__init__" qual (iArg f p1 p2) (iBody f q) (iSc f) .none .none doc pm an (.ref cda) ct cc), osl⟩ ∧ codeIn K (.ref cda) qual = true ∧ findIn K (.ref C) "__init__" = some (some (.ref fA)) ∧ typeIn K (.ref fA) = some (.type "function") ∧
    (∃ ol odl oll, K.lookup cc = some ⟨ol, odl, .cell (some (.ref C)), oll⟩) ∧ ∃ (vs : Array Value) (file : Str) (tf : Tok) (ccl : Value) (cdd : Option Addr) (ccs : Array (Option Value)), K.lookup cda = some ⟨ccl, cdd, .fields vs, ccs⟩ ∧ vs[2]? = some (.str file tf) ∧ ((prog.main.file : Str) == file) = true
  xi : excInitIn K C PySem.HandSPX.veTail "ValueError.__new__" = true
  cd : ∃ cd, clsIn K C = some cd ∧ PySem.HandSPX.refsVE cd.mro = true ∧ cd.hasDict = true
  sa : findIn K (.ref C) "__setattr__" = some (some (.builtin "object.__setattr__"))
  no : findIn K (.ref C) f = some none
  sp : ks_superIn K C C "__init__" = some (some (.builtin "ValueError.__init__"))
  sv : subIn K (.ref C) (.type "ValueError") = some true
  sc : mroIn K C (.ref C) = some true
  tp : nsIn K cStatics "thirdparty.any" = some none
  kp : keepIn K (.ref C) = true
  sb : subIn K (.ref C) (.type "BaseException") = some true
  ty : typeIn K (.ref C) = some (.type "type")
/-- a made error of such a class -/
structure NumMade (h h' : Heap) (e C d : Addr) (f : Str) (v : Value) : Prop where
  keep : ∀ b o, h.get? b = some o → h'.get? b = some o
  new : h.objs.size ≤ e
  obj : ∃ oe vs, h'.get? e = some oe ∧ oe.cls = .ref C ∧ oe.dict = some d ∧ oe.data = .fields vs ∧ vs[1]? = some .none
  dbig : h.objs.size ≤ d
  dne : d ≠ e
  ns : h'.Ns1 d (fun y => if y = f then some v else none)
section
variable {prog : Program} {w : World} {A : Around} {R : Result → Shared → Prop} {s : Shared} {K : Frag} {mg mb : Str → Option Value} {C : Addr} {f : Str}
/-- __init__ run on a fresh error at x; h0: the heap ahead of it -/
theorem num_init {q : Nat → Pos} {pl : Sem Bool} (T : NumX prog K C f q) (he : ∀ env : Env, eval (.Call (.Attribute (.Call (.Name "super" (q 0)) [] [] (q 1)) "__init__" (q 2)) [.Name f (q 3)] [] (q 4)) env = (do
      let ov ← attributeBase (.Call (.Name "super" (q 0)) [] [] (q 1)) "__init__" env (eval (.Call (.Name "super" (q 0)) [] [] (q 1)) env)
      standAt (q 2).atName
      let (g, first) ← holding [ov] (getMethod ov "__init__" pl)
      callWith (q 4) g first (backTo (q 4) (starEach [.Name f (q 3)] env)) []))
     (fo : FldOk f) (ft : (prog.main.scope.names.lookup ("super" : Str)).isSome = false) (ms : mg "super" = none)
    (bd : ∀ (qual : Str) (p1 p2 : Pos) (doc pm : Value) (an : Option Addr) (cd ct : Value) (cc x : Addr) (v : Value), bindArgs (ksFn "__init__" qual (iArg f p1 p2) (iBody f q) (iSc f) .none .none doc pm an cd ct cc) ⟨[.ref x, v], []⟩ = pure [(("self" : Str), Value.ref x), (f, v)])
    {h0 : Heap} {x t0 : Addr} {v : Value} (X0 : K.In h0) (hg : h0.Ns mainGlobals mg)
    (hb : h0.Ns builtinsNs mb) (hbb : ∀ x : Str, x ≠ "__name__" → mb x = bootBuiltins x) (k0 : ∀ b o, h0.get? b = some o → s.heap.get? b = some o) (hz : h0.objs.size ≤ s.heap.objs.size) (hlim : s.heap.NoLimit) (nx : h0.get? x = none)
    (hx : s.heap.get? x = some (excObj C t0 none .none)) (room : A.depth < recursionLimit) {fA : Addr} (ef : findIn K (.ref C) "__init__" = some (some (.ref fA)))
    (hq : ∀ h' tk dx t1, (∀ b o, h0.get? b = some o → h'.get? b = some o) → h'.get? x = some { cls := .ref C, dict := some dx, data := .fields #[.ref t1, .none, .none, .none, .bool false, .none] } → h0.objs.size ≤ dx → dx ≠ x → h'.Ns1 dx (fun y => if y = f then some v else none) →
      R (.ok (.ret .none)) { s with heap := h', toks := tk }) :
    codeAny (model prog w) A (.call (.ref fA) ⟨[.ref x, v], []⟩) R s := by
  obtain ⟨fA', cc, cda, oc, od, doc, pm, an, ct, osl, qual, p1, p2, lf, cdI, ei, ti, ⟨ol, odl, oll, lcc⟩, vs, file, tf, ccl, cdd, ccs, lcd, v2, vf⟩ := T.fI
  rw [ei] at ef
  cases ef
  obtain ⟨cdC, hcd, hm, hdict⟩ := T.cd
  have Xs : K.In s.heap := X0.keeps k0
  refine ks_codeAny_call_defAt (fd := ksFn "__init__" qual (iArg f p1 p2) (iBody f q) (iSc f) .none .none doc pm an (.ref cda) ct cc) (body := iBody f q) (binds := [(("self" : Str), .ref x), (f, v)]) room (Xs _ _ lf) rfl hlim (codeRec_of Xs cdI) rfl
    (BindsTo.of_eq (bd _ _ _ _ _ _ _ _ _ _ _)) ?_ ?_ (fun g1 ns1 k1 => ?_)
  · intro y hy
    simp only [iSc, List.mem_cons, List.not_mem_nil, or_false] at hy
    rcases hy with rfl | rfl | rfl | rfl <;> simp
  · intro y hy
    simp only [List.mem_cons, List.not_mem_nil, or_false] at hy
    rcases hy with rfl | rfl
    · rfl
    · exact fo.own
  · have mf : ([(("self" : Str), .ref x), (f, v)] : List (Str × Value)).reverse.lookup f = some v := by simp [List.lookup]
    have mself : ([(("self" : Str), .ref x), (f, v)] : List (Str × Value)).reverse.lookup (("self" : Str)) = some (Value.ref x) := by
      have sf2 : (("self" : Str) == f) = false := by simpa using fun e => fo.ne e.symm
      simp [List.lookup, sf2]
    have F1 : Fr h0 s.heap.objs.size g1 (fun y => ([(("self" : Str), .ref x), (f, v)] : List (Str × Value)).reverse.lookup y) := ⟨ns1, fun b o e => k1 b o (k0 b o e), hz⟩
    have xL : x ≠ s.heap.objs.size := Nat.ne_of_lt (Heap.lt_size hx)
    have N1 : News h0 s.heap.objs.size g1 [(x, excObj C t0 none .none)] := fun p hp => by
      simp only [List.mem_cons, List.not_mem_nil, or_false] at hp
      subst hp
      exact ⟨k1 _ _ hx, xL, nx⟩
    have X1 : K.In g1 := X0.keeps F1.keep
    have I1 : InstAt g1 x (excObj C t0 none .none) C none := ⟨k1 _ _ hx, rfl, rfl, trivial⟩
    obtain ⟨oD, D1, D2⟩ : ∃ oD, g1.get? C = some oD ∧ oD.data = .cls cdC := by
      unfold clsIn at hcd
      split at hcd
      · rename_i c d cd' sl ho
        cases hcd
        exact ⟨_, X1 _ _ ho, rfl⟩
      · cases hcd
    let env : Env := ksEnv qual (iSc f) s.heap.objs.size fA (.ref cda) cc
    refine ks_wpAt_execs_cons (ks_wpAt_Expr_any (ks_wpAt_MethodCall (pl := pl) (ks_wpAt_super_base (env := env) (ar := { arg := "self", annotation := none, pos := p1 }) fo.sup fo.cls rfl rfl (X1 _ _ lf) rfl rfl rfl (X1 _ _ lcd) rfl v2 vf ft ?_) (he _)))
    refine ks_loadName_global rfl fo.sup (loadGlobal_builtin (env := env) (hg.keeps F1.keep) ms (hb.keeps F1.keep) ((hbb _ (by decide +kernel)).trans (show bootBuiltins "super" = some (.type "super") by decide +kernel)) ⟨rfl, ?_⟩)
    refine wpAny_loadName_free rfl fo.cls rfl ⟨_, X1 _ _ lcc, rfl⟩ (wpAny_loadName_local rfl rfl F1.ns mself (ks_wpAny_isType_cls D1 D2 ⟨rfl, ?_⟩))
    refine ks_wpAny_call_super D1 D2 I1.at_ I1.cls (fun c e => by cases e) (looks_mroIn X1 T.sc) (fun g2 e2 k2 => ?_)
    obtain ⟨F2, N2, l2⟩ := ks_newsPush (s := ⟨g1, s.gens, s.drawn, s.toks + 2, s.os⟩) (o := ks_superObj C x C) F1 N1 rfl e2 k2
    have I2 : InstAt g2 x (excObj C t0 none .none) C none := ⟨k2 _ _ I1.at_, rfl, rfl, trivial⟩
    refine kxs_method (i := "ValueError.__init__") (B := "ValueError") (so := g1.objs.size) kxs_ValueError F2 X0 N2 (by simp) I2 T.tp T.sp T.sv rfl (fun q3 g3 F3 N3 l3 => ?_)
    have nq : q3 ≠ x := fun e => absurd (l3 (x, excObj C t0 none .none) (by simp)) (by rw [e]; exact Nat.lt_irrefl _)
    have nso : g1.objs.size ≠ x := fun e => absurd (l2 (x, excObj C t0 none .none) (by simp)) (by rw [e]; exact Nat.lt_irrefl _)
    refine kxs_callWith1 (i := "ValueError.__init__") (x := x) (u := q3) N3 (by simp) ?_ (by rfl) (by rfl)
    show wpAny _ _ (spliced ((false, eval (.Name f (q 3)) env) :: backTo (q 4) (starEach [] env))) _ _ _
    refine Calls.spliced_cons (wpAny_Name (wpAny_loadName_local rfl fo.own F3.ns mf (Calls.spliced_nil ⟨kxs_at N3 (by simp), ?_⟩)) fo.dbg)
    refine kxs_call (t := t0) (dv := none) (c2 := .none) F3 X0 N3 PySem.F.excBase_ValueError T.xi (by simp) (.tail nq (.tail nso (.head (by simp)))) (by rw [sizeLine_eq]; simp) (fun t1 g4 F4 N4 l4 => ?_)
    have X4 : K.In g4 := X0.keeps F4.keep
    have at4 : g4.get? x = some (excObj C t1 none .none) := (N4 (x, excObj C t1 none .none) (by simp)).1
    refine ks_wpAt_execs_cons (wpAt_of_wpAny (plainObj_wpAny_Assign_Attribute (wpAny_Name (wpAny_loadName_local rfl fo.own F4.ns mf (wpAny_Name (wpAny_loadName_local rfl rfl F4.ns mself ?_) rfl)) fo.dbg) ?_))
    · refine set_plain X4 (ox := excObj C t1 none .none) (od := none) ⟨at4, rfl, rfl, trivial⟩ T.sa ?_
      refine PySem.HandSPX.exc_osa X4 at4 hcd hm hdict T.no (fun g5 k5 dx keep5 dn dne at5 ns5 => ?_)
      refine wpAt_of_wpAny (wpAny_execs_nil ?_)
      have big : s.heap.objs.size < g4.objs.size := F4.ns.lt
      exact hq g5 k5 dx t1 (fun b o e => keep5 b o (fun z => by rw [z, nx] at e; cases e) (F4.keep b o e)) at5 (Nat.le_trans hz (Nat.le_trans (Nat.le_of_lt big) dn)) dne ns5
    · rfl
end
end Mv
set_option Elab.async false
set_option linter.all false
set_option maxRecDepth 100000
/-! Mv, part Y: raise X(e), X such a class. -/
namespace Mv
open PySem PySem.W PySem.Calls PySem.Spec PyProof.Rows
/-- how the call super().__init__(f) of that text goes -/
def CallsAs (f : Str) (q : Nat → Pos) (pl : Sem Bool) : Prop := ∀ env : Env, eval (.Call (.Attribute (.Call (.Name "super" (q 0)) [] [] (q 1)) "__init__" (q 2)) [.Name f (q 3)] [] (q 4)) env = (do
      let ov ← attributeBase (.Call (.Name "super" (q 0)) [] [] (q 1)) "__init__" env (eval (.Call (.Name "super" (q 0)) [] [] (q 1)) env)
      standAt (q 2).atName
      let (g, first) ← holding [ov] (getMethod ov "__init__" pl)
      callWith (q 4) g first (backTo (q 4) (starEach [.Name f (q 3)] env)) [])
def BindsAs (f : Str) (q : Nat → Pos) : Prop := ∀ (qual : Str) (p1 p2 : Pos) (doc pm : Value) (an : Option Addr) (cd ct : Value) (cc x : Addr) (v : Value), bindArgs (ksFn "__init__" qual (iArg f p1 p2) (iBody f q) (iSc f) .none .none doc pm an cd ct cc) ⟨[.ref x, v], []⟩ = pure [(("self" : Str), .ref x), (f, v)]
section
variable {prog : Program} {w : World} {A : Around} {R : Result → Shared → Prop} {s : Shared} {K : Frag} {mg mb : Str → Option Value} {C : Addr} {f : Str} {q : Nat → Pos} {pl : Sem Bool}
theorem num_made (T : NumX prog K C f q) (he : CallsAs f q pl) (fo : FldOk f) (ft : (prog.main.scope.names.lookup ("super" : Str)).isSome = false) (ms : mg "super" = none) (bd : BindsAs f q) {v : Value} (X : K.In s.heap) (hg : s.heap.Ns mainGlobals mg)
    (hb : s.heap.Ns builtinsNs mb) (hbb : ∀ x : Str, x ≠ "__name__" → mb x = bootBuiltins x) (hlim : s.heap.NoLimit) (room : A.depth + 1 < recursionLimit)
    (hq : ∀ h' tk e d, NumMade s.heap h' e C d f v → R (.ok (.ret (.ref e))) { s with heap := h', toks := tk }) : codeAny (model prog w) A (.call (.ref C) ⟨[v], []⟩) R s := by
  obtain ⟨fA, cc, cda, oc, od, doc, pm, an, ct, osl, qual, p1, p2, lf, cdI, ei, ti, lcc, lcd⟩ := T.fI
  obtain ⟨nm, N', qn, bs, bm, hdct, sn, sub, ab, col, dd, k0, k1, k2, k3, k5, hC, hT⟩ := excInit_of X T.xi
  obtain ⟨hp, g, dr, tk, os⟩ := s
  have old : ∀ b o, hp.get? b = some o → ((hp.push (kdv_tup [v])).push (PySem.HandSPX.excO C hp.objs.size)).get? b = some o := fun b o e => Heap.get?_push_of_some _ (Heap.get?_push_of_some _ e)
  have at_ : ((hp.push (kdv_tup [v])).push (PySem.HandSPX.excO C hp.objs.size)).get? (hp.objs.size + 1) = some (PySem.HandSPX.excO C hp.objs.size) := by heap_get
  have new : hp.get? (hp.objs.size + 1) = none := by
    cases e : hp.get? (hp.objs.size + 1) with
    | none => rfl
    | some o => exact absurd (Nat.lt_of_succ_lt (Heap.lt_size e)) (Nat.lt_irrefl _)
  have sz : hp.objs.size ≤ ((hp.push (kdv_tup [v])).push (PySem.HandSPX.excO C hp.objs.size)).objs.size := by
    rw [Heap.size_push, Heap.size_push]
    omega
  refine PySem.HandSPX.call_own PySem.F.excBase_ValueError hT hC (looks_findIn X ei) (fun self => bind_fn X self ti) (by rw [sizeLine_eq]; simp) ?_
  refine num_init (s := ⟨(hp.push (kdv_tup [v])).push (PySem.HandSPX.excO C hp.objs.size), g, dr, tk, os⟩) (h0 := hp) (t0 := hp.objs.size) T he fo ft ms bd X hg hb hbb old sz (hlim.keeps old) new at_ ?_ ei fun h' tk' dx t1 keep at2 big ne ns => ?_
  · show A.depth + 1 < recursionLimit
    exact room
  · exact ⟨rfl, hq h' tk' (hp.objs.size + 1) dx ⟨keep, Nat.le_succ _, ⟨_, _, at2, rfl, rfl, rfl, rfl⟩, big, ne, ns⟩⟩
end
end Mv
namespace Mv
open PySem PySem.Spec PyProof.Rows L2
theorem relO_fld {f : Str} {v : V} {u : Value} (r : RelV v u) (y : Str) : RelO (List.lookup y [(f, v)]) (if y = f then some u else none) := by
  by_cases e : y = f
  · subst e
    rw [if_pos rfl]
    have z : List.lookup y [(y, v)] = some v := by simp [List.lookup]
    rw [z]
    exact r
  · rw [if_neg e]
    have b : (y == f) = false := by simpa using e
    have z : List.lookup y [(f, v)] = none := by simp [List.lookup, b]
    rw [z]
    trivial
section
variable {X : Cx} {C : Addr} {f : Str} {q : Nat → Pos} {pl : Sem Bool}
def tMkN (C : Addr) (f : Str) (ta : TA) : L2.St → Hp → XK → Prop := fun σ H Q => ta σ H fun vs G => ∃ v, vs = [v] ∧ ∀ d, G d = none → Q (.ref C) (some d) (upd G d (.xd [(f, v)]))
theorem pmk_num {x : Str} {a : Expr} {ta : TA} {p pos : Pos} {k : Nat} (T : NumX X.prog X.K C f q) (he : CallsAs f q pl) (fo : FldOk f) (ft : (X.prog.main.scope.names.lookup ("super" : Str)).isSome = false) (ms : X.mg "super" = none) (bd : BindsAs f q) (hr : Room k X.A)
    (gC : X.mg x = some (.ref C)) (ha : PA X [a] ta) (hg : Gl X x := by rfl) (hdb : (x == ("__debug__" : Str)) = false := by decide)
    (hs : starEach (a :: []) X.env = (false, eval a X.env) :: starEach [] X.env := by rfl) (hpl : (backTo pos (starEach [] X.env)).any (·.1) = false := by rfl) : PMk X (.Call (.Name x p) [a] [] pos) (tMkN C f ta) := by
  intro pins s σ H Q J t
  refine wpAny_Call_Name_kw (ld_glob J hg gC (PySem.W.callWith_K (h₀ := X.base) J.ok.mod.kin T.kp (thn (ha.run pos pins s σ H _ J t) fun us s1 hh => ?_) hs hpl) hdb)
  obtain ⟨vs, G, J1, r1, v, rfl, q1⟩ := hh
  obtain ⟨u, rfl, ru⟩ := vals1 r1
  refine ⟨J1.kIn, ?_⟩
  show wpAny _ _ (call (.ref C) [u]) _ _ _
  obtain ⟨mb, b1, b2⟩ := J1.mod.blt
  have hlim := J1.nolimit
  have ns := J1.mod.glob.keeps J1.bk
  have nb := b1.keeps J1.bk
  have kin := J1.kIn
  obtain ⟨hp, g, dr, tk, os⟩ := s1
  refine wpAny_call (num_made T he fo ft ms bd kin ns nb b2 hlim (by have := hr.dp; omega) fun h' tk' e d M => ?_)
  show MkP X pins σ Q (.ref e) ⟨h', g, dr, tk', os⟩
  obtain ⟨oe, fv, ate, ec, ed, dat, i1⟩ := M.obj
  obtain ⟨Z, z1, z2⟩ := restrict h' fun b => decide (b ≠ e)
  have zk : ∀ b, b ≠ e → Z.get? b = h'.get? b := fun b hb => z1 b (decide_eq_true hb)
  have ze : Z.get? e = none := z2 e (by simp)
  have old : ∀ b o, hp.get? b = some o → Z.get? b = some o := fun b o w => (zk b (Nat.ne_of_lt (Nat.lt_of_lt_of_le (Heap.lt_size w) M.new))).trans (M.keep b o w)
  have ob : ObjOk X.prog X.w (upd G d (.xd [(f, v)])) Z d (.xd [(f, v)]) := ⟨_, M.ns.at (fun o w => (zk d M.dne).trans w), fun y => relO_fld ru y⟩
  have J2 : Inv X pins σ (upd G d (.xd [(f, v)])) ⟨Z, g, dr, tk', os⟩ := J1.laid (t' := tk') old M.dbig ob
  refine ⟨e, oe, fv, ⟨Z, g, dr, tk', os⟩, _, .ref C, some d, rfl, J2, fun b o w => ?_, ze, ate, ⟨ec, ed⟩, dat, i1, ?_, rfl, J1.bare, raises_own T.sb T.ty, q1 d (J1.hok.fresh M.dbig)⟩
  · by_cases hb : b = e
    · have w' : Z.get? b = some o := w
      rw [hb, ze] at w'
      cases w'
    · exact (zk b hb).symm.trans w
  · rw [upd_ne (Ne.symm M.dne)]
    exact J1.hok.fresh M.new
end
/-! ### raise X(e) -/
section
variable {X : Cx} {g : Gx} {W : WX} {q : Nat → Pos}
def raiseV (c : Nat) (a : MA) : MS := fun sl h => (a (view sl) h).toS sl fun vs h1 => match vs with
  | [v] => .exc ⟨c, some v⟩ sl h1
  | _ => .bad
theorem rs_raiseV {c : Nat} {x : Str} {a : Expr} {m : MA} {p pos pos2 : Pos} {k : Nat} (hc : X.calm = true) (tk : Takes X W) (T : NumX X.prog X.K (g.adr c) (g.fld c) q) (he : ∃ pl, CallsAs (g.fld c) q pl) (fo : FldOk (g.fld c)) (ft : (X.prog.main.scope.names.lookup ("super" : Str)).isSome = false) (ms : X.mg "super" = none) (bd : BindsAs (g.fld c) q) (hr : Room k X.A)
    (gC : X.mg x = some (.ref (g.adr c))) (ha : RA X g W [a] m) (hg : Gl X x := by rfl) (hdb : (x == ("__debug__" : Str)) = false := by decide)
    (hs : starEach (a :: []) X.env = (false, eval a X.env) :: starEach [] X.env := by rfl) (hpl : (backTo pos (starEach [] X.env)).any (·.1) = false := by rfl) : RS X g W (.Raise (some (.Call (.Name x p) [a] [] pos)) none pos2) (raiseV c m) :=
  let ⟨_, he⟩ := he
  ps_imp (ps_raise hc tk (pmk_num T he fo ft ms bd hr gC ha hg hdb hs hpl)) fun D σ H ⟨w, sl, h, f, k, pp⟩ => by
    refine seqS f k pp fun w1 H1 h1 vs ys e1 f1 k1 r1 p1 => ?_
    split at p1
    · rename_i v
      simp only [relVs, RVs] at r1
      obtain ⟨y, r, rfl, r2, rfl⟩ := r1
      refine ⟨y, rfl, fun d hd => ?_⟩
      have ex : Ext w1 H1 w1 (upd H1 d (.xd [(g.fld c, y)])) := Ext.grow k1 hd
      refine p1 w1 _ σ _ (some d) ex.toS (Hk.grow k1 hd) (f1.mono ex) ⟨rfl, ?_⟩
      exact ⟨d, y, rfl, upd_same, k1.fresh hd, RV.mono ex.sees _ _ r2⟩
    · exact p1.elim
end
end Mv
set_option Elab.async false
set_option linter.all false
set_option maxRecDepth 100000
/-! Mv, part Z: what a head tells of error classes. -/
namespace Mv
open PySem PySem.W PySem.Spec PyProof.Rows L2
structure PgOk (P : Program) (file : Str) : Prop where
  file : ((P.main.file : Str) == file) = true
  sup : (P.main.scope.names.lookup ("super" : Str)).isSome = false
def cellB (K : Frag) (C : Addr) : List (Str × Addr) → Bool
  | [p] => decide (p.1 = "__class__") && (match K.lookup p.2 with
    | some ⟨_, _, .cell (some (.ref D)), _⟩ => decide (D = C)
    | _ => false)
  | _ => false
theorem cellB_ok {K : Frag} {C : Addr} {l : List (Str × Addr)} (h : cellB K C l = true) : ∃ cc, l = [(("__class__" : Str), cc)] ∧ ∃ ol odl oll, K.lookup cc = some ⟨ol, odl, .cell (some (.ref C)), oll⟩ := by
  unfold cellB at h
  split at h
  · rename_i p
    obtain ⟨y, cc⟩ := p
    simp only [Bool.and_eq_true, decide_eq_true_eq] at h
    obtain ⟨rfl, h⟩ := h
    split at h
    · rename_i D _ e
      have := of_decide_eq_true h
      subst this
      exact ⟨cc, rfl, _, _, _, e⟩
    · cases h
  · cases h
def fileB (file : Str) (K : Frag) (cda : Addr) : Bool := match K.lookup cda with
  | some ⟨_, _, .fields vs, _⟩ => (match (vs[2]? : Option Value) with
    | some (.str z _) => decide (file = z)
    | _ => false)
  | _ => false
theorem fileB_ok {P : Program} {file : Str} {K : Frag} {cda : Addr} (pg : PgOk P file) (h : fileB file K cda = true) :
    ∃ (vs : Array Value) (z : Str) (tf : Tok) (ccl : Value) (cdd : Option Addr) (ccs : Array (Option Value)), K.lookup cda = some ⟨ccl, cdd, .fields vs, ccs⟩ ∧ vs[2]? = some (.str z tf) ∧ ((P.main.file : Str) == z) = true := by
  unfold fileB at h
  split at h
  · rename_i vs _ e
    split at h
    · rename_i z t e2
      have := of_decide_eq_true h
      subst this
      exact ⟨vs, _, t, _, _, _, e, e2, pg.file⟩
    · cases h
  · cases h
def initB (file : Str) (K : Frag) (C : Addr) (f : Str) (q : Nat → Pos) : Bool := match K.lookup (He.ma K C "__init__") with
  | some ⟨_, _, .func ⟨n1, n2, n3, n4, n5, n6, n7, n8, n9, _, _, _, .ref cda, _, n15⟩, _⟩ => decide (n1 = "__init__") && (isArg f n3 && (isBody f q n4 && (decide (n5 = iSc f) && (decide (n6 = mainGlobals) && (cellB K C n7 && (decide (n8 = .none) && (decide (n9 = .none) && (decide (n15 = builtinsNs) && (codeIn K (.ref cda) n2 && fileB file K cda)))))))))
  | _ => false
def clsB (K : Frag) (C : Addr) : Bool := match clsIn K C with
  | some cd => PySem.HandSPX.refsVE cd.mro && cd.hasDict
  | none => false
/-- a class of errors with super().__init__(f); self.f = f -/
def numB (file : Str) (K : Frag) (C : Addr) (f : Str) (q : Nat → Pos) : Bool :=
  initB file K C f q && (decide (findIn K (.ref C) "__init__" = some (some (.ref (He.ma K C "__init__")))) && (decide (typeIn K (.ref (He.ma K C "__init__")) = some (.type "function")) && (excInitIn K C PySem.HandSPX.veTail "ValueError.__new__" && (clsB K C &&
  (decide (findIn K (.ref C) "__setattr__" = some (some (.builtin "object.__setattr__"))) && (decide (findIn K (.ref C) f = some none) && (decide (ks_superIn K C C "__init__" = some (some (.builtin "ValueError.__init__"))) && (decide (subIn K (.ref C) (.type "ValueError") = some true) &&
  (decide (mroIn K C (.ref C) = some true) && (decide (nsIn K cStatics "thirdparty.any" = some none) && (keepIn K (.ref C) && (decide (subIn K (.ref C) (.type "BaseException") = some true) && decide (typeIn K (.ref C) = some (.type "type"))))))))))))))
theorem numB_ok {P : Program} {file : Str} {K : Frag} {C : Addr} {f : Str} {q : Nat → Pos} (pg : PgOk P file) (h : numB file K C f q = true) : NumX P K C f q := by
  unfold numB at h
  simp only [Bool.and_eq_true, decide_eq_true_eq] at h
  obtain ⟨h1, h2, h3, h4, h5, h6, h7, h8, h9, h10, h11, h12, h13, h14⟩ := h
  refine ⟨?_, h4, ?_, h6, h7, h8, h9, h10, h11, h12, h13, h14⟩
  · unfold initB at h1
    split at h1
    · rename_i oc od n1 n2 n3 n4 n5 n6 n7 n8 n9 n10 n11 n12 cda n14 n15 osl e
      simp only [Bool.and_eq_true, decide_eq_true_eq] at h1
      obtain ⟨rfl, i2, i3, rfl, rfl, i6, rfl, rfl, rfl, i10, i11⟩ := h1
      obtain ⟨p1, p2, rfl⟩ := isArg_ok i2
      have i3 := isBody_ok i3
      subst i3
      obtain ⟨cc, rfl, cell⟩ := cellB_ok i6
      exact ⟨_, cc, cda, oc, od, n10, n11, n12, n14, osl, n2, p1, p2, e, i10, h2, h3, cell, fileB_ok pg i11⟩
    · cases h1
  · unfold clsB at h5
    split at h5
    · rename_i cd e
      obtain ⟨a, b⟩ := Bool.and_eq_true_iff.mp h5
      exact ⟨cd, e, a, b⟩
    · cases h5
theorem errC_ok {K : Frag} {x : Str} (c : (He.Fa.exc x).ok K = true) : ErrC K (He.ga K x) := by
  obtain ⟨a, b, d, e⟩ := He.exc_ok c
  exact ⟨a, b, d, e⟩
section
variable {fa : List He.Fa} {fn : List He.DefD} {ex : Frag → Bool} {K : Frag} {mg : Str → Option Value}
theorem Hy.err (y : Hy fa fn ex K mg) (i : Nat) {x : Str} (e : fa[i]? = some (.exc x) := by rfl) : ErrC K (He.ga K x) := errC_ok (y.c.fact i e)
theorem Hy.exm (y : Hy fa fn ex K mg) (i : Nat) {x z : Str} {b : Bool} (e : fa[i]? = some (.exm x z b) := by rfl) : exmOne K (.ref (He.ga K x)) (.ref (He.ga K z)) = some b := He.exm_ok (y.c.fact i e)
end
/-- who catches whom, by a table -/
def exmT (l : List (Nat × Nat × Bool)) (c c' : Nat) : Option Bool := match l with
  | [] => none
  | p :: r => if p.1 = c ∧ p.2.1 = c' then some p.2.2 else exmT r c c'
theorem exmT_ok {K : Frag} {g : Gx} : ∀ {l : List (Nat × Nat × Bool)}, (∀ p ∈ l, exmOne K (.ref (g.adr p.1)) (.ref (g.adr p.2.1)) = some p.2.2) → ExmOk K g (exmT l)
  | [], _, c, c', b, e => by cases e
  | p :: r, h, c, c', b, e => by
    unfold exmT at e
    split at e
    · rename_i z
      cases e
      rw [← z.1, ← z.2]
      exact h p (List.mem_cons_self ..)
    · exact exmT_ok (fun q hq => h q (List.mem_cons_of_mem _ hq)) c c' b e
def exmBs (K : Frag) (G : Nat → Addr) (l : List (Nat × Nat × Bool)) : Bool := l.all fun p => decide (exmOne K (.ref (G p.1)) (.ref (G p.2.1)) = some p.2.2)
theorem exmBs_ok {K : Frag} {g : Gx} {l : List (Nat × Nat × Bool)} (h : exmBs K g.adr l = true) : ExmOk K g (exmT l) := exmT_ok fun p hp => of_decide_eq_true (List.all_eq_true.mp h p hp)
end Mv
set_option Elab.async false
set_option linter.all false
set_option maxRecDepth 100000
/-! Mv, part AA: the end of a law whose defs make lambdas. -/
namespace Mv
open PySem PySem.Spec PyProof.Rows L2
abbrev tabO : Obj := { cls := .none, data := .fields #[] }
abbrev lsO (us : List Value) : Obj := { cls := .type "list", data := .seq us.toArray }
/-- what is tracked at the start: the empty tables, the script (if it is no part of K) -/
def H0 (ts : List Addr) (a : Addr) (o : Option HO) : Hp := fun b => if b ∈ ts then some (.tbl #[]) else if b = a then o else none
theorem H0_tab {ts : List Addr} {a b : Addr} {o : Option HO} (h : b ∈ ts) : H0 ts a o b = some (.tbl #[]) := if_pos h
theorem H0_a {ts : List Addr} {a : Addr} {o : Option HO} (h : a ∉ ts) : H0 ts a o a = o := by
  unfold H0
  rw [if_neg h, if_pos rfl]
theorem H0_no {ts : List Addr} {a b : Addr} {o : Option HO} (h : b ∉ ts) (n : b ≠ a) : H0 ts a o b = none := by
  unfold H0
  rw [if_neg h, if_neg n]
section
variable {P : Program} {w : World} {K : PySem.W.Frag} {mg mb : Str → Option Value} {k : Nat} {fa a : Addr} {cs : List (Addr × Addr)} {fd : FuncData} {x : Str} {sp : Sp} {s : Shared} {us : List Value} {ns : List Int}
theorem law_callG (KX : K.In s.heap) (nm : s.heap.Ns mainGlobals mg) (nb : s.heap.Ns builtinsNs mb) (bb : ∀ x : Str, x ≠ "__name__" → mb x = bootBuiltins x) (lim : s.heap.NoLimit) (gn : s.gens = #[])
    (tE : ∀ p ∈ cs, s.heap.get? p.2 = some tabO) (tK : ∀ p ∈ cs, K.lookup p.2 = none) (tC : ∀ p ∈ cs, PySem.W.CodeHd s.heap p.1 p.2)
    (bmn : ∃ (bm : Addr) (ob : Obj), mg "__builtins__" = some (.ref bm) ∧ bm ≠ builtinsNs ∧ s.heap.get? bm = some ob ∧ ob.cls = .type "module" ∧ ob.dict = some builtinsNs ∧ ob.data = .plain)
    (la : s.heap.get? a = some (lsO us)) (hi : IntsAre us ns) (hl : ns.length ≤ sizeLine) (hr : Room k callerA) (F : ∀ base : Heap, (∀ p ∈ cs, LamX.TabB base mg p.1 p.2) → FnG P w K mg base k fa fd [x] sp) (bd : ∀ (s : Shared) (u : Value), BindsTo s fd ⟨[u], []⟩ [(x, u)])
    (hsp : ∀ (o : Option HO), (K.lookup a ≠ none → o = none) → (o = none ∨ ∃ ob u, o = some (.frz ob u)) → a ∉ cs.map (·.2) → SqL K (H0 (cs.map (·.2)) a o) a (ns.map V.int) → sp [.ref a] (H0 (cs.map (·.2)) a o) (fun v _ => v = .bl true) fun _ _ _ => False) :
    codeAny (model P w) callerA (.call (.ref fa) ⟨[.ref a], []⟩) (fun r u => r = .ok (.ret (.bool true)) ∧ OldK s.heap u.heap ∧ u.os = s.os ∧ AllBare u.gens) s := by
  have vi := vals_ints hi
  have ln := hi.length
  have tb : ∀ b ∈ cs.map (·.2), s.heap.get? b = some tabO := fun b hb => by
    obtain ⟨p, hp, e⟩ := List.mem_map.mp hb
    rw [← e]
    exact tE p hp
  have nt : a ∉ cs.map (·.2) := fun z => by
    have e := tb a z
    rw [la] at e
    have z2 : Data.seq us.toArray _ = Data.fields #[] := congrArg Obj.data (Option.some.inj e)
    cases z2
  have inT : ∀ p ∈ cs, p.2 ∈ cs.map (·.2) := fun p hp => List.mem_map.mpr ⟨p, hp, rfl⟩
  obtain ⟨o, ok1, ok2, sq, hok⟩ : ∃ o : Option HO, (K.lookup a ≠ none → o = none) ∧ (o = none ∨ ∃ ob u, o = some (.frz ob u)) ∧ SqL K (H0 (cs.map (·.2)) a o) a (ns.map V.int) ∧ HOk P w (H0 (cs.map (·.2)) a o) s.heap := by
    cases kl : K.lookup a with
    | some oa =>
      have e := KX a oa kl
      rw [la] at e
      cases e
      refine ⟨none, fun _ => rfl, .inl rfl, .inr ⟨_, us.toArray, _, kl, rfl, rfl, rfl, by rw [List.size_toArray, ln]; exact hl, by simpa using vi⟩, fun b u z => ?_⟩
      by_cases hb : b ∈ cs.map (·.2)
      · rw [H0_tab hb] at z
        cases z
        exact tb b hb
      · by_cases ha : b = a
        · subst ha
          rw [H0_a nt] at z
          cases z
        · rw [H0_no hb ha] at z
          cases z
    | none =>
      refine ⟨some (.frz (lsO us) (.lst (ns.map V.int))), fun z => (z rfl).elim, .inr ⟨_, _, rfl⟩, .inl (.inr ⟨_, H0_a nt⟩), fun b u z => ?_⟩
      by_cases hb : b ∈ cs.map (·.2)
      · rw [H0_tab hb] at z
        cases z
        exact tb b hb
      · by_cases ha : b = a
        · subst ha
          rw [H0_a nt] at z
          cases z
          exact ⟨la, by rw [List.length_map]; exact hl, us, _, vi, la⟩
        · rw [H0_no hb ha] at z
          cases z
  generalize eH : H0 (cs.map (·.2)) a o = G at sq hok
  have gT : ∀ p ∈ cs, G p.2 = some (.tbl #[]) := fun p hp => by rw [← eH]; exact H0_tab (inT p hp)
  have gO : ∀ b, G b = none ∨ b ∈ cs.map (·.2) ∨ ∃ ob u, G b = some (.frz ob u) := fun b => by
    by_cases hb : b ∈ cs.map (·.2)
    · exact .inr (.inl hb)
    · by_cases ha : b = a
      · subst ha
        rw [← eH, H0_a nt]
        exact ok2.elim .inl fun z => .inr (.inr z)
      · exact .inl (by rw [← eH]; exact H0_no hb ha)
  have gN : ∀ {b : Addr} {ob : Obj}, s.heap.get? b = some ob → (∀ vs n, ob.data ≠ .seq vs n) → ob.data ≠ .fields #[] → G b = none := fun {b ob} e h1 h2 => by
    by_cases hb : b ∈ cs.map (·.2)
    · rw [tb b hb] at e
      cases e
      exact (h2 rfl).elim
    · by_cases ha : b = a
      · subst ha
        rw [la] at e
        cases e
        exact (h1 _ _ rfl).elim
      · rw [← eH]
        exact H0_no hb ha
  have gD : ∀ {b : Addr} {ob : Obj} {es : Array DictEntry} {ep : Nat}, s.heap.get? b = some ob → ob.data = .dict es ep → G b = none := fun e d => gN e (fun vs n z => by rw [d] at z; cases z) fun z => by rw [d] at z; cases z
  have bas : ∀ {b : Addr} {ob : Obj}, s.heap.get? b = some ob → G b = none → (hidT s.heap G).get? b = some ob := fun e n => hidT_get e n
  have nsB : ∀ {b : Addr} {m : Str → Option Value}, s.heap.Ns b m → (hidT s.heap G).Ns b m := fun ⟨ob, es, ep, e, d, r⟩ => ⟨ob, es, ep, bas e (gD e d), d, r⟩
  have kB : K.In (hidT s.heap G) := fun b ob e => bas (KX b ob e) (by
    by_cases hb : b ∈ cs.map (·.2)
    · obtain ⟨p, hp, ep⟩ := List.mem_map.mp hb
      rw [← ep, tK p hp] at e
      cases e
    · by_cases ha : b = a
      · subst ha
        rw [← eH, H0_a nt]
        exact ok1 (by rw [e]; simp)
      · rw [← eH]
        exact H0_no hb ha)
  have md : L2.Mod K mg (hidT s.heap G) := ⟨kB, nsB nm, ⟨mb, nsB nb, bb⟩, by obtain ⟨mc, h1, h2⟩ := lim; exact ⟨mc, nsB h1, h2⟩⟩
  have TB : ∀ p ∈ cs, LamX.TabB (hidT s.heap G) mg p.1 p.2 := fun p hp => by
    have ep := tE p hp
    constructor
    · obtain ⟨ob, vs, file, tf, fl, tg, inF, tx, tt, e1, r1, r2, r3, rest⟩ := tC p hp
      refine ⟨ob, vs, file, tf, fl, tg, inF, tx, tt, bas e1 (gN e1 (fun vs n z => ?_) fun z => ?_), r1, r2, r3, rest⟩
      · rw [r2] at z
        cases z
      · rw [r2] at z
        cases z
        simp at r3
    · obtain ⟨bm, ob, b1, b2, b3, b4, b5, b6⟩ := bmn
      refine ⟨bm, ob, b1, b2, fun e => ?_, fun e => ?_, bas b3 (gN b3 (fun vs n z => by rw [b6] at z; cases z) fun z => by rw [b6] at z; cases z), b4, b5, b6⟩
      · obtain ⟨o2, es, ep2, e2, hd, _⟩ := nm
        rw [e, e2] at b3
        cases b3
        rw [hd] at b6
        cases b6
      · rw [e, ep] at b3
        cases b3
        cases b6
    · intro e
      obtain ⟨o2, es, ep2, e2, hd, _⟩ := nm
      rw [e, ep] at e2
      cases e2
      cases hd
  have env0 : Env0 P w K mg (hidT s.heap G) callerA [] s G := ⟨rfl, md, fun b ob e => of_hidT e, Nat.le_of_eq (hidT_size _ _), trivial, fun b hb => absurd (show b ∈ ([] : List Addr) from hb) (by simp), hok, .of_eq gn⟩
  have prom := hsp o ok1 ok2 nt (by rw [eH]; exact sq)
  rw [eH] at prom
  refine codeAny_mono ((F _ TB).run callerA [] s G ⟨[.ref a], []⟩ [.ref a] [.ref a] _ _ rfl hr env0 (bd s (.ref a)) (.cons rfl .nil) prom) fun r u z => ?_
  cases r with
  | error e =>
    obtain ⟨_, _, _, _, _, _, _, _, _, _, _, _, q⟩ := (show L2.CX P w [] G s (fun _ _ _ => False) e u from z)
    exact q.elim
  | ok fl =>
    cases fl with
    | ret v =>
      obtain ⟨y, G2, os, bare, un, hok2, rv, q⟩ := z
      have q2 : y = .bl true := q
      subst q2
      obtain rfl : v = Value.bool true := rv
      have same : ∀ b ob, b ∉ cs.map (·.2) → s.heap.get? b = some ob → u.heap.get? b = some ob := fun b ob nb e => by
        rcases gO b with c | c | ⟨o2, u2, c⟩
        · exact un.keep b ob e c (by intro z; exact absurd (show b ∈ ([] : List Addr) from z) (by simp)) (by simp)
        · exact absurd c nb
        · obtain ⟨e1, _⟩ := hok b _ c
          obtain ⟨e2, _⟩ := hok2 b _ (un.frzs b o2 _ c)
          rw [e] at e1
          cases e1
          exact e2
      have more : ∀ p ∈ cs, ∃ vs : Array Value, u.heap.get? p.2 = some { cls := .none, data := .fields vs } := fun p hp => by
        obtain ⟨m, c⟩ := un.tbls p.2 #[] (gT p hp)
        exact ⟨_, hok2 p.2 _ c⟩
      refine ⟨rfl, ⟨fun b ob e => ?_, fun b ob e => ?_⟩, os, bare⟩
      · by_cases hb : b ∈ cs.map (·.2)
        · obtain ⟨p, hp, ep⟩ := List.mem_map.mp hb
          obtain ⟨vs, c⟩ := more p hp
          rw [← ep] at e ⊢
          rw [tE p hp] at e
          cases e
          exact .inr (.inl ⟨((tC p hp).tab (tE p hp)).isCodeTable, rfl, #[], vs, rfl, by rw [Array.empty_append]; exact c⟩)
        · exact .inl (same b ob hb e)
      · by_cases hb : b ∈ cs.map (·.2)
        · obtain ⟨p, hp, ep⟩ := List.mem_map.mp hb
          obtain ⟨vs, c⟩ := more p hp
          rw [← ep]
          exact ⟨_, c⟩
        · exact ⟨ob, same b ob hb e⟩
    | _ => exact False.elim z
end
end Mv
set_option Elab.async false
set_option linter.all false
set_option maxRecDepth 100000
/-! Mv, part AB: a law whose defs make lambdas, behind the head. -/
namespace Mv
open PySem PySem.Spec PyProof.Rows L2
/-- the small heap at the start: the tables -/
def hT (ts : List (Nat × Str)) : VH := ts.map fun t => .tbl t.1 t.2
def TBs (mg : Str → Option Value) (cs : List (Addr × Addr)) (base : Heap) : Prop := ∀ p ∈ cs, LamX.TabB base mg p.1 p.2
theorem hk_start {K : PySem.W.Frag} {g : Gx} {ts : List (Nat × Str)} {l : List Addr} {a : Addr} {o : Option HO} (el : l = ts.map fun t => g.adr t.1) (nd : l.Nodup) (na : a ∉ l) (fr : o = none ∨ ∃ ob u, o = some (.frz ob u)) :
    Hk K g.adr ⟨l.map some, fun _ => False, []⟩ (hT ts) (H0 l a o) where
  len := by unfold hT; rw [el]; simp
  inj := fun n m b hn hm => by
    simp only [List.getElem?_map, Option.map_eq_some_iff] at hn hm
    obtain ⟨c, h1, e1⟩ := hn
    obtain ⟨d, h2, e2⟩ := hm
    cases e1
    cases e2
    exact (List.getElem?_inj (List.getElem?_eq_some_iff.mp h1).1 nd).mp (h1.trans h2.symm)
  obj := fun n b hn => by
    simp only [List.getElem?_map, Option.map_eq_some_iff] at hn
    obtain ⟨c, h1, e1⟩ := hn
    cases e1
    have hb : b ∈ l := List.mem_of_getElem? h1
    rw [el, List.getElem?_map, Option.map_eq_some_iff] at h1
    obtain ⟨t, h2, e2⟩ := h1
    refine ⟨.tbl t.1 t.2, by unfold hT; rw [List.getElem?_map, h2]; rfl, e2.symm, #[], H0_tab hb, trivial, fun pos cv z => ?_⟩
    have z2 : codeAmong pos [] = some cv := z
    simp [codeAmong] at z2
  has := fun n u hn hu => by
    unfold hT at hn
    rw [List.getElem?_map, Option.map_eq_some_iff] at hn
    obtain ⟨t, h1, e1⟩ := hn
    refine ⟨g.adr t.1, ?_⟩
    show (l.map some)[n]? = _
    rw [el, List.getElem?_map, List.getElem?_map, h1]
    rfl
  prot := fun b hb => by
    rcases hb with z | z
    · exact z.elim
    · cases z
  own := fun b hb => hb.elim
  ownI := fun n m b hn => by cases hn
  spc := fun b u e => by
    by_cases hb : b ∈ l
    · rw [H0_tab hb] at e
      cases e
      exact List.mem_map.mpr ⟨b, hb, rfl⟩
    · by_cases ha : b = a
      · subst ha
        rw [H0_a na] at e
        rcases fr with z | ⟨ob, u2, z⟩
        · rw [z] at e; cases e
        · rw [z] at e; cases e; trivial
      · rw [H0_no hb ha] at e
        cases e
theorem walk_mvT {l : PySem.W.OpenLaw} {n k : Nat} {q : Program} {loose : List Str} {XP : (Str → Option Value) → Heap → Prop} {YP : World → Heap → Prop} {d : DefRec} {x : Str} {mf : MF} {ts : List (Nat × Str)} (h1 : l.most = some n) (h2 : n ≤ sizeLine) (h3 : d.params.defaults = []) (h4 : Room k callerA)
    (F : ∀ (w : World) (mg : Str → Option Value) (fa : Addr) (h : Heap), YP w h → h.Ns mainGlobals mg → mg d.name = some (.ref fa) → ∃ (K : PySem.W.Frag) (g : Gx) (cs : List (Addr × Addr)), K.In h ∧ (∀ p ∈ cs, h.get? p.2 = some tabO) ∧ (∀ p ∈ cs, K.lookup p.2 = none) ∧
      (∀ p ∈ cs, PySem.W.CodeHd h p.1 p.2) ∧ cs.map (·.2) = ts.map (fun t => g.adr t.1) ∧ (cs.map (·.2)).Nodup ∧ OkG l.prog w K mg g (TBs mg cs) k fa [x] mf)
    (hm : ∀ ns : List Int, ns.length ≤ n → ∃ h, mf [.rol (ns.map VV.int)] (hT ts) = .ok (.bl true) h) : PySem.W.WalkO q loose XP YP l.row.toRowW d [] (fun f vs => PySem.call f vs) := by
  refine Att.attach_callB h1 h3 fun w s0 s1 mg mb fa o pm cd doc a vs ns G Y e1 e2 e3 e4 e5 e6 e7 _ e8 => ?_
  obtain ⟨K, g, cs, KX, tE, tK, tC, et, nd, fd, ok, _, _, hb⟩ := F w mg fa _ Y G.T.g e4
  refine law_callG KX G.T.g G.T.b G.T.builtins G.T.nolimit e8 tE tK tC G.T.bmain e5 e6 (Nat.le_trans e7 h2) h4 (fun base tb => ok base tb) (fun s u => hb s [u] rfl) fun o ok1 ok2 nt sq => ?_
  obtain ⟨hh, em⟩ := hm ns e7
  refine ⟨_, hT ts, [.rol (ns.map VV.int)], hk_start et nd nt ok2, ?_, ?_⟩
  · have nm : ¬ (⟨(cs.map (·.2)).map some, fun _ => False, []⟩ : Wd).mut a := fun z => by
      rcases z with z | z | z
      · obtain ⟨b, hb, e⟩ := List.mem_map.mp z
        cases e
        exact nt hb
      · exact z
      · cases z
    simp only [RVs, RV]
    refine ⟨_, [], rfl, ⟨a, ns.map V.int, rfl, ?_, RVs.of_ints ns⟩, rfl⟩
    rcases sq with sq | sq
    · left
      rcases sq with sq | ⟨ob, sq⟩
      · rw [H0_a nt] at sq
        rcases ok2 with z | ⟨ob, u, z⟩
        · rw [z] at sq; cases sq
        · rw [z] at sq; cases sq
      · exact ⟨ob, sq, nm⟩
    · exact .inr sq
  · rw [em]
    intro w' H' y ex k' r
    simpa only [relV, RV] using r
end Mv
set_option Elab.async false
set_option linter.all false
set_option maxRecDepth 100000
/-! Mv, part AC: x, y, z = (e, [], []), y and z own lists from there on. -/
namespace Mv
open PySem PySem.Spec PyProof.Rows L2
/-- a try's clauses, out of the def's text -/
def hsOf : List Stmt → List ExceptHandler
  | [.Try _ hs _ _ _, _] => hs
  | _ => []
def asgO3 (i j l : Nat) (a : ME) : MS := fun sl h => (a (view sl) h).toS sl fun v h1 => .nx (((sl.set j (.own [])).set l (.own [])).set i (.val v)) h1
section
variable {X : Cx} {g : Gx} {W : WX} {e : Expr} {me : ME} {i j l : Nat} {x y z : Str} {px py pz p1 p2 pt pt2 pos : Pos} {kt k2 : Nat}
theorem rs_asgO3 (i j l : Nat) (nd : X.N.Nodup) (hpe : RE X g W e me) (hc : X.calm = true := by rfl) (hi : X.N[i]? = some x := by rfl) (hj : X.N[j]? = some y := by rfl) (hl : X.N[l]? = some z := by rfl) (hij : i ≠ j := by decide) (hil : i ≠ l := by decide) (hjl : j ≠ l := by decide)
    (hx : Loc X.env.scope x := by first | exact Or.inl rfl | exact Or.inr rfl) (hy : Loc X.env.scope y := by first | exact Or.inl rfl | exact Or.inr rfl) (hz : Loc X.env.scope z := by first | exact Or.inl rfl | exact Or.inr rfl)
    (fx : X.fn x = true ∨ X.env.scope.names.lookup x = some .local := by first | exact .inl rfl | exact .inr rfl) (fy : X.fn y = true ∨ X.env.scope.names.lookup y = some .local := by first | exact .inl rfl | exact .inr rfl) (fz : X.fn z = true ∨ X.env.scope.names.lookup z = some .local := by first | exact .inl rfl | exact .inr rfl)
    (s1 : starEach (e :: [.List [] p1, .List [] p2]) X.env = (false, eval e X.env) :: starEach [.List [] p1, .List [] p2] X.env := by rfl)
    (hs : swapsWithSole [.Tuple [.Name x px, .Name y py, .Name z pz] kt pt] (.Tuple [e, .List [] p1, .List [] p2] k2 pt2) pos.line X.env = pure false := by rfl)
    (hw : swappedStores [.Tuple [.Name x px, .Name y py, .Name z pz] kt pt] (.Tuple [e, .List [] p1, .List [] p2] k2 pt2) X.env = pure none := by rfl) :
    RS X g W (.Assign [.Tuple [.Name x px, .Name y py, .Name z pz] kt pt] (.Tuple [e, .List [] p1, .List [] p2] k2 pt2) pos) (asgO3 i j l me) := by
  have tg := pg_tup (X := X) (k := kt) (pos := pt) hc (pgs_cons (pg_name (pos := px) nd hi hx fx) (pgs_cons (pg_name (pos := py) nd hj hy fy) (pgs_cons (pg_name (pos := pz) nd hl hz fz) pgs_nil)))
  have rh := pe_tup (X := X) (x1 := k2) (pos := pt2) (pa_cons hpe (pa_cons (pe_lst (pos := p1) pa_nil) (pa_cons (pe_lst (pos := p2) pa_nil) pa_nil)) s1)
  refine ps_imp (ps_asg rh tg hs hw) fun D σ H ⟨w, sl, h, f, k, p⟩ => ?_
  refine seqS f k p fun w1 H1 h1 v u e1 f1 k1 r1 q => ?_
  refine ⟨by rw [sizeLine_eq]; simp, fun a ha => ⟨by rw [sizeLine_eq]; simp, fun b hb => ⟨by rw [sizeLine_eq]; simp, fun c hc2 => ?_⟩⟩⟩
  have f2 := f1.mkOwn (i := j) (xs := []) (ys := []) ha (by simp [RVs])
  have k2' := k1.mkOwn (i := j) (o := .lst []) ha
  have x2 := own_ext (i := j) (o := .lst []) k1 ha
  have f3 := f2.mkOwn (i := l) (xs := []) (ys := []) hb (by simp [RVs])
  have k3 := k2'.mkOwn (i := l) (o := .lst []) hb
  have x3 := own_ext (i := l) (o := .lst []) k2' hb
  have x4 : Ext _ _ _ _ := Ext.grow (o := .tup [u, .ref a, .ref b]) k3 hc2
  have k4 := Hk.grow (o := .tup [u, .ref a, .ref b]) k3 hc2
  have f4 := f3.mono x4
  have r4 := RV.mono ((x2.trans x3).trans x4.toS).sees _ _ r1
  have f5 := f4.setv (i := i) r4
  have k5 := k4.drop (i := i)
  have x5 := drop_ext (w := ((w1.own j a).own l b)) (H := upd (upd (upd H1 a (.lst [])) b (.lst [])) c (.tup [u, .ref a, .ref b])) (i := i)
  refine ⟨c, [u, .ref a, .ref b], rfl, .inl (.inl upd_same), rfl, u, [.ref a, .ref b], rfl, .ref a, [.ref b], rfl, .ref b, [], rfl, rfl, ?_⟩
  have q2 := q _ _ _ ((x2.trans x3).trans (x4.toS.trans x5)) k5 f5
  rw [List.set_comm _ _ (Ne.symm hil), List.set_comm _ _ (Ne.symm hij)] at q2
  exact q2
end
def asgV3 (i j l : Nat) (a : ME) : MS := fun sl h => (a (view sl) h).toS sl fun v h1 => .nx (((sl.set j (.own [])).set l (.val (.lst []))).set i (.val v)) h1
section
variable {X : Cx} {g : Gx} {W : WX} {e : Expr} {me : ME} {i j l : Nat} {x y z : Str} {px py pz p1 p2 pt pt2 pos : Pos} {kt k2 : Nat}
theorem rs_asgV3 (i j l : Nat) (nd : X.N.Nodup) (hpe : RE X g W e me) (hc : X.calm = true := by rfl) (hi : X.N[i]? = some x := by rfl) (hj : X.N[j]? = some y := by rfl) (hl : X.N[l]? = some z := by rfl) (hij : i ≠ j := by decide) (hil : i ≠ l := by decide) (hjl : j ≠ l := by decide)
    (hx : Loc X.env.scope x := by first | exact Or.inl rfl | exact Or.inr rfl) (hy : Loc X.env.scope y := by first | exact Or.inl rfl | exact Or.inr rfl) (hz : Loc X.env.scope z := by first | exact Or.inl rfl | exact Or.inr rfl)
    (fx : X.fn x = true ∨ X.env.scope.names.lookup x = some .local := by first | exact .inl rfl | exact .inr rfl) (fy : X.fn y = true ∨ X.env.scope.names.lookup y = some .local := by first | exact .inl rfl | exact .inr rfl) (fz : X.fn z = true ∨ X.env.scope.names.lookup z = some .local := by first | exact .inl rfl | exact .inr rfl)
    (s1 : starEach (e :: [.List [] p1, .List [] p2]) X.env = (false, eval e X.env) :: starEach [.List [] p1, .List [] p2] X.env := by rfl)
    (hs : swapsWithSole [.Tuple [.Name x px, .Name y py, .Name z pz] kt pt] (.Tuple [e, .List [] p1, .List [] p2] k2 pt2) pos.line X.env = pure false := by rfl)
    (hw : swappedStores [.Tuple [.Name x px, .Name y py, .Name z pz] kt pt] (.Tuple [e, .List [] p1, .List [] p2] k2 pt2) X.env = pure none := by rfl) :
    RS X g W (.Assign [.Tuple [.Name x px, .Name y py, .Name z pz] kt pt] (.Tuple [e, .List [] p1, .List [] p2] k2 pt2) pos) (asgV3 i j l me) := by
  have tg := pg_tup (X := X) (k := kt) (pos := pt) hc (pgs_cons (pg_name (pos := px) nd hi hx fx) (pgs_cons (pg_name (pos := py) nd hj hy fy) (pgs_cons (pg_name (pos := pz) nd hl hz fz) pgs_nil)))
  have rh := pe_tup (X := X) (x1 := k2) (pos := pt2) (pa_cons hpe (pa_cons (pe_lst (pos := p1) pa_nil) (pa_cons (pe_lst (pos := p2) pa_nil) pa_nil)) s1)
  refine ps_imp (ps_asg rh tg hs hw) fun D σ H ⟨w, sl, h, f, k, p⟩ => ?_
  refine seqS f k p fun w1 H1 h1 v u e1 f1 k1 r1 q => ?_
  refine ⟨by rw [sizeLine_eq]; simp, fun a ha => ⟨by rw [sizeLine_eq]; simp, fun b hb => ⟨by rw [sizeLine_eq]; simp, fun c hc2 => ?_⟩⟩⟩
  have f2 := f1.mkOwn (i := j) (xs := []) (ys := []) ha (by simp [RVs])
  have k2' := k1.mkOwn (i := j) (o := .lst []) ha
  have x2 := own_ext (i := j) (o := .lst []) k1 ha
  have x3 : Ext (w1.own j a) (upd H1 a (.lst [])) (w1.own j a) (upd (upd H1 a (.lst [])) b (.lst [])) := Ext.grow k2' hb
  have k3 := Hk.grow (o := .lst []) k2' hb
  have f3 := f2.mono x3
  have x4 : Ext (w1.own j a) (upd (upd H1 a (.lst [])) b (.lst [])) (w1.own j a) (upd (upd (upd H1 a (.lst [])) b (.lst [])) c (.tup [u, .ref a, .ref b])) := Ext.grow k3 hc2
  have k4 := Hk.grow (o := .tup [u, .ref a, .ref b]) k3 hc2
  have f4 := f3.mono x4
  have rb : RV X.K g.adr (w1.own j a) (upd (upd (upd H1 a (.lst [])) b (.lst [])) c (.tup [u, .ref a, .ref b])) (.lst []) (.ref b) := RV.lst_of (ys := []) (by rw [upd_ne (ne_of_none upd_same hc2), upd_same]) (k2'.fresh hb) (by simp [RVs])
  have f4' := f4.setv (i := l) rb
  have k4' := k4.drop (i := l)
  have x4' := drop_ext (w := w1.own j a) (H := upd (upd (upd H1 a (.lst [])) b (.lst [])) c (.tup [u, .ref a, .ref b])) (i := l)
  have r4 := RV.mono ((x2.trans x3.toS).trans (x4.toS.trans x4')).sees _ _ r1
  have f5 := f4'.setv (i := i) r4
  have k5 := k4'.drop (i := i)
  have x5 := drop_ext (w := (w1.own j a).drop l) (H := upd (upd (upd H1 a (.lst [])) b (.lst [])) c (.tup [u, .ref a, .ref b])) (i := i)
  refine ⟨c, [u, .ref a, .ref b], rfl, .inl (.inl upd_same), rfl, u, [.ref a, .ref b], rfl, .ref a, [.ref b], rfl, .ref b, [], rfl, rfl, ?_⟩
  have q2 := q _ _ _ (((x2.trans x3.toS).trans (x4.toS.trans x4')).trans x5) k5 f5
  rw [List.set_comm _ _ (Ne.symm hil), List.set_comm _ _ (Ne.symm hij)] at q2
  exact q2
end
end Mv
set_option Elab.async false
set_option linter.all false
set_option maxRecDepth 100000
/-! Mv, part AD: the head's facts, the library's statics among them. -/
namespace Mv
open PySem PySem.W PySem.Spec PyProof.Rows L2
def asS (g : Addr → Option Obj) (n : Nat) : List Addr := cStatics :: He.asD g n
def obsS (n : Nat) (fa : List He.Fa) (fn : List He.DefD) (tf : List He.Defn) (ex : Frag → Bool) (g : Addr → Option Obj) : He.AlX := (He.obsT fa fn [] (He.frT g (asS g n)), ex (He.frT g (asS g n)) && He.tabsB g tf (He.frT g (asS g n)))
theorem saysS_of {n : Nat} {fa : List He.Fa} {fn : List He.DefD} {tf : List He.Defn} {ex : Frag → Bool} {w : World} {h : Heap} (e : obsS n fa fn tf ex h.get? = He.valX fn [] w) : He.SaysX fa fn [] tf ex w h (He.frT h.get? (asS h.get? n)) := by
  have e1 : He.obsT fa fn [] (He.frT h.get? (asS h.get? n)) = He.valT fn [] w := congrArg Prod.fst e
  have e2 : (ex (He.frT h.get? (asS h.get? n)) && He.tabsB h.get? tf (He.frT h.get? (asS h.get? n))) = true := congrArg Prod.snd e
  obtain ⟨i1, i2⟩ := Bool.and_eq_true_iff.mp e2
  have each : ∀ p ∈ tf, codeHdIn (He.frT h.get? (asS h.get? n)) (He.cT (He.frT h.get? (asS h.get? n)) p).1 (He.cT (He.frT h.get? (asS h.get? n)) p).2 = true ∧ ∃ o, h.get? (He.cT (He.frT h.get? (asS h.get? n)) p).2 = some o ∧ He.emptyTab o = true := fun p hp => by
    obtain ⟨j1, j2⟩ := Bool.and_eq_true_iff.mp (List.all_eq_true.mp i2 p hp)
    refine ⟨j1, ?_⟩
    cases q : h.get? (He.cT (He.frT h.get? (asS h.get? n)) p).2 with
    | some o =>
      rw [q] at j2
      exact ⟨o, rfl, j2⟩
    | none =>
      rw [q] at j2
      cases j2
  refine ⟨e1, i1, fun p hp => (each p hp).1, fun p hp => ?_, fun p hp => ?_⟩
  · obtain ⟨_, o, q, z⟩ := each p hp
    exact He.frT_none q z
  · obtain ⟨_, o, q, z⟩ := each p hp
    rw [q, He.emptyTab_eq z]
def hookS (n : Nat) (fa : List He.Fa) (fn : List He.DefD) (tf : List He.Defn) (ex : Frag → Bool) : Hook where
  α := He.AlX
  obs := fun s => obsS n fa fn tf ex s.heap.get?
  val := fun w => He.valX fn [] w
  says := fun w h => ∃ K : Frag, K.In h ∧ He.SaysX fa fn [] tf ex w h K
  of := fun _ _ e => ⟨_, He.frT_in, saysS_of e⟩
  keeps := fun _ _ _ ⟨K, i, c⟩ k => ⟨K, Frag.In.keeps i k, ⟨c.t, c.more, c.hd, c.out, fun p hp => k _ _ (c.empty p hp)⟩⟩
theorem obsS_eq {n : Nat} {fa : List He.Fa} {fn : List He.DefD} {tf : List He.Defn} {ex : Frag → Bool} {g : Addr → Option Obj} {s : Shared} (h : ∀ a, g a = s.heap.get? a) : obsS n fa fn tf ex g = (hookS n fa fn tf ex).obs s := by
  have e : g = s.heap.get? := funext h
  rw [e]
  rfl
end Mv
set_option Elab.async false
set_option linter.all false
set_option maxRecDepth 100000
/-! Mv, part AE: a module's texts, its empty tuple; raise X(CONST). -/
namespace Mv
open PySem PySem.Spec PyProof.Rows L2
section
variable {X : Cx} {g : Gx} {W : WX} {pos : Pos}
theorem re_gstr {x z : Str} (hg : Gl X x) (hm : ∃ t, X.mg x = some (.str z t)) (hd : (x == ("__debug__" : Str)) = false := by decide) : RE X g W (.Name x pos) (cM (.str z)) := by
  obtain ⟨t, hm⟩ := hm
  exact pe_imp (pe_glob (v := .str z) hg hm ⟨t, rfl⟩ hd) fun σ H Q t => const_imp (fun _ => by simp only [RV]) t
theorem re_gnil {x : Str} {a : Addr} (hg : Gl X x) (hm : X.mg x = some (.ref a)) (ht : KTup X.K a []) (hd : (x == ("__debug__" : Str)) = false := by decide) : RE X g W (.Name x pos) (cM (.ktu [])) :=
  pe_imp (pe_glob (v := .ref a) hg hm rfl hd) fun σ H Q t => const_imp (fun w => by
    simp only [RV]
    exact ⟨a, [], rfl, .inl ht, by simp [RVs]⟩) t
end
def nilB (K : PySem.W.Frag) (x : Str) : Bool := match PySem.W.nsIn K mainGlobals x with
  | some (some (.ref a)) => (match K.lookup a with
    | some ⟨.type c, none, .seq its _, _⟩ => decide (c = "tuple") && its.isEmpty
    | _ => false)
  | _ => false
section
variable {fa : List He.Fa} {fn : List He.DefD} {ex : PySem.W.Frag → Bool} {K : PySem.W.Frag} {mg : Str → Option Value} {x : Str}
theorem Hy.str (y : Hy fa fn ex K mg) (i : Nat) {z : Str} (e : fa[i]? = some (.str x z) := by rfl) : ∃ t, mg x = some (.str z t) := by
  obtain ⟨h, a, b⟩ := y.h
  exact He.str_ok a b (y.c.fact i e)
theorem Hy.nil (y : Hy fa fn ex K mg) (e : nilB K x = true) : ∃ a, mg x = some (.ref a) ∧ KTup K a [] := by
  obtain ⟨h, c1, c2⟩ := y.h
  unfold nilB at e
  split at e
  · rename_i a ea
    split at e
    · rename_i c its n sl el
      obtain ⟨h1, h2⟩ := Bool.and_eq_true_iff.mp e
      have h3 := of_decide_eq_true h1
      subst h3
      have h4 := Array.isEmpty_iff.mp h2
      subst h4
      exact ⟨a, PySem.W.mg_of c1 c2 ea, _, _, _, el, rfl, rfl, by simp, .nil, rfl⟩
    · cases e
  · cases e
end
end Mv
set_option Elab.async false
set_option linter.all false
set_option maxRecDepth 100000
/-! Mv, part AF: dict comprehensions whose keys are tuples. -/
namespace Mv
open PySem PySem.Spec PyProof.Rows L2
/-- D[(..)] = v by a comprehension -/
theorem t_dictSet {X : Cx} {pins : List (Addr × Obj)} {σ : L2.St} {H : Hp} {s : Shared} {E : Value → Shared → Prop} {D b : Addr} {kvs : List (List Key × V)} {k : List Key} {v : V} {r : Value} {Q : Unit → Shared → Prop} (hu : X.A.units + 1 < cLine) (I : Inv X pins σ H s) (hD : H D = some (.dT kvs)) (hz : kvs.length < sizeLine)
    (eb : H b = some (.tup (k.map kV))) (rv : RelV v r) (h : ∀ s', Inv X pins σ (upd H D (.dT (putK kvs k v))) s' → Q () s') : wpAny (model X.prog X.w) X.A (dictSet D (.ref b) r) Q E s := by
  obtain ⟨z, hd, xs, rel, dd⟩ := dt_of I.hok hD
  have zx : xs.length ≤ sizeLine := by rw [← Paired.length rel]; exact z
  have lp : (putK kvs k v).length ≤ sizeLine := by have := length_putK kvs k v; omega
  refine wpAny_dictSet_heap (hsz := zx) (show X.A.units < cLine by omega) (key_of I.hok eb) dd fun g dg sb => h _ ?_
  obtain ⟨o, es, ep, e1, e2, e3, e4, _, e5⟩ := dg
  refine d_write I (by rw [hD]; exact True.intro) sb ⟨o, e1⟩ ⟨lp, hd, _, (rel.put k eb rv).keeps fun c ys ec => ?_, o, es, ep, e1, e2, e3, e4, e5⟩
  rw [upd_ne (ne_of ec hD (fun q => nomatch q))]
  exact ec
section
variable {X : Cx}
/-- what such a comprehension asks: D the new dict -/
def tDcT (wi : TI) (g : TG) (tt : TT) (tk tv : TE) (vs : List Nat) : TE := fun σ H Q => wi σ H fun J H1 => ∀ D, H1 D = none → ∃ W : Nat → Nat → Hp → Prop, (∃ m, W 0 m (upd H1 D (.dT []))) ∧ ∀ i m H, W i m H →
  (J.stop i H ∧ Q (.ref D) H) ∨ (J.go i H ∧ ∃ Nx : Hp → Prop, (∀ H', Nx H' → ∃ m', m' < m ∧ W (i + 1) m' H') ∧ ∀ x H', J.yld i H x H' → g x (wipe σ vs) H' fun σ2 H2 => wipe σ2 vs = wipe σ vs ∧ tt σ2 H2 fun b H3 =>
    if b = true then tk σ2 H3 fun y H4 => tv σ2 H4 fun z H5 => ∃ kvs k q, y = .ref q ∧ H5 q = some (.tup (k.map kV)) ∧ H5 D = some (.dT kvs) ∧ kvs.length < sizeLine ∧ Nx (upd H5 D (.dT (putK kvs k z))) else Nx H3)
theorem dcT_core {pins : List (Addr × Obj)} {s : Shared} {σ : L2.St} {H : Hp} {Q : VK} {kx vx tg iter : Expr} {ifs : List Expr} {scope : Scope} {own : List (Str × Nat)} {pos pos' : Pos} {wi : TI} {g : TG} {tt : TT} {tk tv : TE} {use : Option (Value → Sem Unit)} {Qf : Value → Shared → Prop}
    (hu : X.A.units + 1 < cLine) (calm : X.calm = true) (nd : X.N.Nodup) (J0 : Inv X pins σ H s) (hi : PI X tg iter wi) (ok : BlkOk X.N X.env.scope scope own)
    (hg : ∀ (s : Shared) (H : Hp) (C : Addr) (cl : List (Str × Addr)) (fp : List Addr), PG (X.blk s H scope (compEnvC scope cl C X.env) fp) tg g) (ht : ∀ (s : Shared) (H : Hp) (C : Addr) (cl : List (Str × Addr)) (fp : List Addr), PTs (X.blk s H scope (compEnvC scope cl C X.env) fp) ifs tt)
    (hk : ∀ (s : Shared) (H : Hp) (C : Addr) (cl : List (Str × Addr)) (fp : List Addr), PE (X.blk s H scope (compEnvC scope cl C X.env) fp) kx tk)
    (he : ∀ (s : Shared) (H : Hp) (C : Addr) (cl : List (Str × Addr)) (fp : List Addr), PE (X.blk s H scope (compEnvC scope cl C X.env) fp) vx tv) (hs : ∀ x, foldedSetIterable iter X.env x = pure x)
    (h : tDcT wi g tt tk tv (own.map (·.2)) σ H Q)
    (back : ∀ D C s' m H', Inv X pins σ H' s' → Q (.ref D) H' → s'.heap.Ns C m → FpOk X pins H' C → compPost (model X.prog X.w) X.A X.xe use Qf (.ref D) C (.ok .next) s') :
    wpAny (model X.prog X.w) X.A (comprehension (.DictComp kx vx [⟨tg, iter, ifs, 0⟩] scope pos) scope X.env pos' newDict false (eval iter X.env) use) Qf X.xe s := by
  have free : ∀ y ∈ scope.names, y.2 = .free → ∃ c, X.env.cells.lookup y.1 = some c := fun y hy e => (ok.free y hy e).elim (fun k => J0.ok.has _ (.inl k)) fun k => J0.ok.has _ (.inr k)
  refine wpAny_comprehension_free (use := use) rfl hs (closure_ok free) ok.kind (fun y hy e => by rw [ok.uniq y hy, e]) (thn (hi.run pins s σ H _ J0 h) fun xv u1 hx => thn hx fun itv u2 h2 => ?_)
  obtain ⟨it, fp, tn, J, G2, rfl, J2, T, st2, f2, q⟩ := h2
  refine wpAny_newObj_type (newEnv_comp ?_)
  generalize eD : u2.heap.objs.size = D
  have nD : G2 D = none := J2.hok.fresh (Nat.le_of_eq eD)
  obtain ⟨W, ⟨m0, w0⟩, turn⟩ := q D nD
  generalize e3 : ({ u2 with heap := u2.heap.push { cls := .type "dict", data := .dict #[] } } : Shared) = u3
  have hp3 : u3.heap = u2.heap.push { cls := .type "dict", data := .dict #[] } := by rw [← e3]
  have J3 : Inv X pins σ (upd G2 D (.dT [])) u3 := by
    rw [← e3]
    refine J2.laid (t' := u2.toks) (fun b o e => Heap.get?_push_of_some _ e) (Nat.le_of_eq eD) ?_
    rw [← eD]
    exact dt_empty u2.heap J2.big
  have low : ∀ b ∈ fp, b < u2.heap.objs.size := fun b hb => by
    obtain ⟨o, e, _⟩ := T.obj _ _ st2 b hb
    exact Heap.lt_size e
  have f3 : ∀ b ∈ fp, FpOk X pins (upd G2 D (.dT [])) b ∧ b < u3.heap.objs.size := fun b hb => by
    refine ⟨⟨?_, (f2 b hb).2⟩, by rw [hp3, Heap.size_push]; exact Nat.lt_succ_of_lt (low b hb)⟩
    rw [upd_ne (by rw [← eD]; exact Nat.ne_of_lt (low b hb))]
    exact (f2 b hb).1
  have st3 : tn 0 u3.heap := T.keep _ _ _ st2 fun b _ o e => by rw [hp3]; exact Heap.get?_push_of_some _ e
  have J4 := block_start J3 ok nd f3
  have pg := hg u3 (upd G2 D (.dT [])) u3.heap.objs.size (cellsFrom (u3.heap.objs.size + 1) scope.names (cloFrom X.env.cells scope.names [])) fp
  have pt := ht u3 (upd G2 D (.dT [])) u3.heap.objs.size (cellsFrom (u3.heap.objs.size + 1) scope.names (cloFrom X.env.cells scope.names [])) fp
  have pk := hk u3 (upd G2 D (.dT [])) u3.heap.objs.size (cellsFrom (u3.heap.objs.size + 1) scope.names (cloFrom X.env.cells scope.names [])) fp
  have pv := he u3 (upd G2 D (.dT [])) u3.heap.objs.size (cellsFrom (u3.heap.objs.size + 1) scope.names (cloFrom X.env.cells scope.names [])) fp
  show codeAny _ _ (.compStart (.DictComp kx vx [⟨tg, iter, ifs, 0⟩] scope pos) 0 (.ref it) (.ref D) (compEnvC scope (cellsFrom (u3.heap.objs.size + 1) scope.names (cloFrom X.env.cells scope.names [])) u3.heap.objs.size X.env)) (compPost (model X.prog X.w) X.A X.xe use Qf (.ref D) u3.heap.objs.size) { u3 with heap := pushCells (u3.heap.push { cls := .type "dict", data := .dict #[] }) scope.names }
  have n3 : ∀ b ∈ fp, (upd G2 D (.dT [])) b = none := fun b hb => (f3 b hb).1.1
  generalize ece : compEnvC scope (cellsFrom (u3.heap.objs.size + 1) scope.names (cloFrom X.env.cells scope.names [])) u3.heap.objs.size X.env = ce at J4 pg pt pk pv ⊢
  have eL : ce.locals = u3.heap.objs.size := by subst ece; rfl
  generalize eG : upd G2 D (.dT []) = G3 at J3 J4 pg pt pk pv w0 n3 f3
  generalize e4 : ({ u3 with heap := pushCells (u3.heap.push { cls := .type "dict", data := .dict #[] }) scope.names } : Shared) = u4 at J4 ⊢
  have st4 : tn 0 u4.heap := T.keep _ _ _ st3 fun b _ o e => by rw [← e4]; exact pushCells_keeps _ _ _ _ (Heap.get?_push_of_some _ e)
  have fps : ∀ {σ' : L2.St} {G : Hp} {u : Shared}, Inv (X.blk u3 G3 scope ce fp) [] σ' G u → (∀ b ∈ fp, G b = none) → ∀ b ∈ fp, FpOk (X.blk u3 G3 scope ce fp) [] G b := fun {σ' G u} I' hn b hb =>
    ⟨hn b hb, (I'.ok.exf b hb).1, I'.ok.exfs b hb, .inl hb, fun x c e => (I'.ok.exf b hb).2 x c e, fun p hp => absurd (show p ∈ ([] : List (Addr × Obj)) ++ [] from hp) (by simp)⟩
  refine codeAny_compStart_dict ?_ (T.self X.A 0 _ _ _ st4 ?_)
  all_goals
    refine compLoop_anyD (fun n u => ∃ i G, Inv (X.blk u3 G3 scope ce fp) [] (wipe σ (own.map (·.2))) G u ∧ tn i u.heap ∧ (∀ b ∈ fp, G b = none) ∧ W i n G) ?_ m0 ⟨0, G3, J4, st4, n3, w0⟩
    rintro n u5 ⟨i, G5, J5, st5, n5, w5⟩
    rcases turn i n G5 w5 with ⟨stop, fin⟩ | ⟨go, Nx, dec, step⟩
    · refine thnF (T.done (X.blk u3 G3 scope ce fp) rfl rfl rfl calm i [] u5 _ G5 (fun _ _ => False) J5 (fps J5 n5) st5 stop) fun r u6 ⟨er, J6⟩ => ?_
      subst er
      have J7 : Inv X pins σ G5 u6 := J3.call' (ch := fp) J6.os J6.base J6.hok J6.bare fun b hb => ⟨(f3 b hb).1.2.2.2.1, (f3 b hb).1.2.1, (f3 b hb).1.2.2.2.2.1, (f3 b hb).1.2.2.2.2.2⟩
      have nC : G5 u3.heap.objs.size = none := by
        have z : G5 ce.locals = none := J6.free
        rw [eL] at z
        exact z
      obtain ⟨m, hn, _⟩ := J6.loc
      have hn : u6.heap.Ns ce.locals m := hn
      rw [eL] at hn
      exact back D u3.heap.objs.size u6 m G5 J7 fin hn (J3.fpOk (Nat.le_refl _) nC)
    · refine thnF (T.item (X.blk u3 G3 scope ce fp) rfl rfl rfl calm i [] u5 _ G5 (fun _ _ => False) J5 (fps J5 n5) st5 go) fun r u6 ⟨v, er, h6⟩ => ?_
      subst er
      refine thnF h6 fun _ u7 ⟨x, G7, J7, r7, y7, st7, n7⟩ => ?_
      have J7' := J7.pinned (fps J7 n7) (T.obj _ _ st7)
      refine thnF (pg.run _ u7 _ G7 x v _ J7' r7 (step x G7 y7)) fun _ u8 ⟨σ8, G8, J8, hw8, q8⟩ => ?_
      refine thnF (pt.run _ u8 σ8 G8 _ J8 q8) fun b u9 ⟨G9, J9, q9⟩ => ?_
      have next : ∀ {u : Shared} {G : Hp}, Inv (X.blk u3 G3 scope ce fp) ([] ++ pinsAt fp u7.heap) σ8 G u → Nx G → ∃ m, m < n ∧ ∃ i G, Inv (X.blk u3 G3 scope ce fp) [] (wipe σ (own.map (·.2))) G u ∧ tn i u.heap ∧ (∀ b ∈ fp, G b = none) ∧ W i m G := fun {u G} I' nx => by
        obtain ⟨m', hm, w'⟩ := dec G nx
        have pin : ∀ b ∈ fp, ∀ o, u7.heap.get? b = some o → u.heap.get? b = some o ∧ G b = none := fun b hb o e => by
          obtain ⟨z1, z2, _⟩ := I'.pin (b, o) (List.mem_append_right _ (List.mem_append_right _ (mem_pinsAt hb e)))
          exact ⟨z1, z2⟩
        refine ⟨m', hm, i + 1, G, (I'.unpinned (pins := [])).weak (by rw [← hw8, wipe_length]) (fun j v e => ?_), T.keep _ _ _ st7 fun b hb o e => (pin b hb o e).1, fun b hb => ?_, w'⟩
        · rw [← hw8] at e
          exact (wipe_some e).1
        · obtain ⟨o, e, _⟩ := T.obj _ _ st7 b hb
          exact (pin b hb o e).2
      cases b with
      | false =>
        simp only [Bool.false_eq_true, if_false] at q9 ⊢
        exact next J9 q9
      | true =>
        simp only [if_true] at q9 ⊢
        refine thnF (pk.run _ u9 σ8 G9 _ J9 q9) fun z u10 ⟨yk, G10, J10, r10, q10⟩ => ?_
        refine thnF (pv.run _ u10 σ8 G10 _ J10 q10) fun z2 u11 ⟨yv, G11, J11, r11, kvs, k, qa, ek, ea, hD11, hz11, nx⟩ => ?_
        subst ek
        obtain rfl : z = Value.ref qa := r10
        exact t_dictSet (X := X.blk u3 G3 scope ce fp) hu J11 hD11 hz11 ea r11 fun u12 J12 => next J12 nx
/-- as a value -/
theorem pe_dcT {kx vx tg iter : Expr} {ifs : List Expr} {scope : Scope} {own : List (Str × Nat)} {pos : Pos} {wi : TI} {g : TG} {tt : TT} {tk tv : TE} (hu : X.A.units + 1 < cLine) (calm : X.calm = true) (nd : X.N.Nodup) (hi : PI X tg iter wi) (ok : BlkOk X.N X.env.scope scope own)
    (hg : ∀ (s : Shared) (H : Hp) (C : Addr) (cl : List (Str × Addr)) (fp : List Addr), PG (X.blk s H scope (compEnvC scope cl C X.env) fp) tg g) (ht : ∀ (s : Shared) (H : Hp) (C : Addr) (cl : List (Str × Addr)) (fp : List Addr), PTs (X.blk s H scope (compEnvC scope cl C X.env) fp) ifs tt)
    (hk : ∀ (s : Shared) (H : Hp) (C : Addr) (cl : List (Str × Addr)) (fp : List Addr), PE (X.blk s H scope (compEnvC scope cl C X.env) fp) kx tk)
    (he : ∀ (s : Shared) (H : Hp) (C : Addr) (cl : List (Str × Addr)) (fp : List Addr), PE (X.blk s H scope (compEnvC scope cl C X.env) fp) vx tv) (hs : ∀ x, foldedSetIterable iter X.env x = pure x := by intro _; rfl) :
    PE X (.DictComp kx vx [⟨tg, iter, ifs, 0⟩] scope pos) (tDcT wi g tt tk tv (own.map (·.2))) := by
  refine ⟨fun pins s σ H Q I h => ?_⟩
  rw [arm_eval_DictComp]
  refine dcT_core hu calm nd I hi ok hg ht hk he hs h fun D C s' m G I' q hn f => ⟨m, hn, fun h'' sb => ?_⟩
  obtain ⟨f0, f1, f2, f3, f4, f5⟩ := f
  exact ⟨.ref D, G, I'.turned (t' := s'.toks) (fun b o hb e => (sb.2 b hb).trans e) f0 f1 f3 f4 f5, rfl, q⟩
end
end Mv
set_option Elab.async false
set_option linter.all false
set_option maxRecDepth 100000
/-! Mv, part AG: dicts with tuple keys: their mirror, comprehensions. -/
namespace Mv
open PySem PySem.Spec PyProof.Rows L2

/-! ### keys that are tuples -/
def isKey : VV → Bool
  | .int _ => true
  | .str _ => true
  | _ => false
def eqKy : VV → VV → Bool
  | .int i, .int j => decide (i = j)
  | .str i, .str j => decide (i = j)
  | _, _ => false
def eqKys : List VV → List VV → Bool
  | [], [] => true
  | x :: xs, y :: ys => eqKy x y && eqKys xs ys
  | _, _ => false
def keysOf : List VV → Option (List Key)
  | [] => some []
  | x :: xs => (keyOf x).bind fun k => (keysOf xs).map fun ks => k :: ks
def keyT : VV → Option (List Key)
  | .tup xs => keysOf xs
  | _ => none
/-- a number by which unlike keys are told apart at once, most often -/
def codeKy : VV → Nat
  | .int (.ofNat n) => n
  | _ => 0
def codeKs : List VV → Nat
  | [] => 1
  | x :: xs => codeKs xs * 65536 + codeKy x
theorem eqKys_code : ∀ {xs ys : List VV}, eqKys xs ys = true → codeKs xs = codeKs ys
  | [], [], _ => rfl
  | [], _ :: _, e => by simp [eqKys] at e
  | _ :: _, [], e => by simp [eqKys] at e
  | x :: xs, y :: ys, e => by
    simp only [eqKys, Bool.and_eq_true] at e
    have h1 : codeKy x = codeKy y := by
      have e1 := e.1
      unfold eqKy at e1
      split at e1
      · rw [of_decide_eq_true e1]
      · rfl
      · cases e1
    show codeKs xs * 65536 + codeKy x = codeKs ys * 65536 + codeKy y
    rw [eqKys_code e.2, h1]
def sameT : VV → VV → Bool
  | .tup xs, .tup ys => Nat.beq (codeKs xs) (codeKs ys) && eqKys xs ys
  | _, _ => false
theorem sameT_eq (xs ys : List VV) : sameT (.tup xs) (.tup ys) = eqKys xs ys := by
  show (Nat.beq (codeKs xs) (codeKs ys) && eqKys xs ys) = eqKys xs ys
  cases e : eqKys xs ys with
  | false => rw [Bool.and_false]
  | true => rw [eqKys_code e, Bool.and_true]; exact Nat.beq_refl _
def putT (ks vs : List VV) (k v : VV) : List VV × List VV := if ks.any (fun x => sameT x k) then (ks, List.zipWith (fun x y => if sameT x k then v else y) ks vs) else (ks ++ [k], vs ++ [v])
theorem eqKy_vvK (a b : Key) : eqKy (vvK a) (vvK b) = decide (a = b) := by
  cases a with
  | inl i => cases b with
    | inl j => simp [vvK, eqKy]
    | inr j => simp [vvK, eqKy]
  | inr i => cases b with
    | inl j => simp [vvK, eqKy]
    | inr j => simp [vvK, eqKy]
theorem eqKys_vvK : ∀ a b : List Key, eqKys (a.map vvK) (b.map vvK) = decide (a = b)
  | [], [] => by simp [eqKys]
  | [], _ :: _ => by simp [eqKys]
  | _ :: _, [] => by simp [eqKys]
  | x :: a, y :: b => by
    simp only [List.map_cons, eqKys, eqKy_vvK, eqKys_vvK a b, List.cons.injEq, Bool.decide_and]
theorem of_keysOf : ∀ {xs : List VV} {ks : List Key}, keysOf xs = some ks → xs = ks.map vvK
  | [], _, e => by simp only [keysOf, Option.some.injEq] at e; subst e; rfl
  | x :: xs, _, e => by
    simp only [keysOf, Option.bind_eq_some_iff, Option.map_eq_some_iff] at e
    obtain ⟨k, e1, ks, e2, rfl⟩ := e
    rw [List.map_cons, ← of_keysOf e2, ← of_keyOf e1]
theorem of_keyT {x : VV} {k : List Key} (e : keyT x = some k) : x = .tup (k.map vvK) := by
  cases x with
  | tup xs => simp only [keyT] at e; rw [of_keysOf e]
  | _ => simp only [keyT] at e; cases e
theorem sameT_vvK (a b : List Key) : sameT (.tup (a.map vvK)) (.tup (b.map vvK)) = decide (a = b) := by rw [sameT_eq]; exact eqKys_vvK a b
section
variable {K : PySem.W.Frag} {G : Nat → Addr} {w : Wd} {H : Hp}
theorem RVs.kVs : ∀ {ks : List Key} {ys : List V}, RVs K G w H (ks.map vvK) ys → ys = ks.map kV
  | [], _, r => by simpa only [List.map_nil, RVs] using r
  | k :: ks, _, r => by
    simp only [List.map_cons, RVs] at r
    obtain ⟨y, l, rfl, h1, h2⟩ := r
    rw [List.map_cons, ← RVs.kVs h2]
    congr 1
    exact h1.key (keyOf_vvK k)
theorem RVs.of_kVs : ∀ ks : List Key, RVs K G w H (ks.map vvK) (ks.map kV)
  | [] => by simp [RVs]
  | k :: ks => by
    simp only [List.map_cons, RVs]
    exact ⟨_, _, rfl, RV.to_kV k, RVs.of_kVs ks⟩
theorem RV.keyT {x : VV} {y : V} {k : List Key} (r : RV K G w H x y) (e : keyT x = some k) : ∃ b, y = .ref b ∧ H b = some (.tup (k.map kV)) ∧ ¬ w.mut b := by
  have e2 := of_keyT e
  subst e2
  simp only [RV] at r
  obtain ⟨a, ys, rfl, ⟨h1, h2⟩, r⟩ := r
  rw [RVs.kVs r] at h1
  exact ⟨a, rfl, h1, h2⟩
theorem any_keysT (k : List Key) : ∀ kvs : List (List Key × V), ((keysT kvs).any fun x => sameT x (.tup (k.map vvK))) = kvs.any fun kv => decide (kv.1 = k)
  | [] => rfl
  | p :: kvs => by
    have ih := any_keysT k kvs
    unfold keysT at ih ⊢
    rw [List.map_cons, List.any_cons, List.any_cons, ih, sameT_vvK]
theorem putT_vals {v : VV} {z : V} (k : List Key) (rv : RV K G w H v z) : ∀ {vs : List VV} {kvs : List (List Key × V)}, RVs K G w H vs (kvs.map fun p => p.2) →
    RVs K G w H (List.zipWith (fun x y => if sameT x (.tup (k.map vvK)) then v else y) (keysT kvs) vs) ((kvs.map fun kv => if kv.1 = k then (kv.1, z) else kv).map fun p => p.2)
  | [], [], _ => by simp [RVs, keysT]
  | [], _ :: _, r => by simp [RVs] at r
  | x :: xs, [], r => by simp [RVs] at r
  | x :: xs, p :: kvs, r => by
    simp only [List.map_cons, RVs] at r
    obtain ⟨y, r2, e, h1, h2⟩ := r
    injection e with e1 e2
    subst e1 e2
    have ih := putT_vals k rv h2
    unfold keysT at ih ⊢
    simp only [List.map_cons, List.zipWith_cons_cons, RVs]
    refine ⟨_, _, rfl, ?_, ih⟩
    rw [sameT_vvK]
    by_cases c : p.1 = k
    · rw [if_pos c, if_pos (by simpa using c)]
      exact rv
    · rw [if_neg c, if_neg (by simpa using c)]
      exact h1
/-- putT stands for putK -/
theorem putT_ok {ks vs : List VV} {kvs : List (List Key × V)} {x v : VV} {z : V} {k : List Key} (rk : ks = keysT kvs) (rs : RVs K G w H vs (kvs.map fun p => p.2)) (e : keyT x = some k) (rv : RV K G w H v z) :
    (putT ks vs x v).1 = keysT (putK kvs k z) ∧ RVs K G w H (putT ks vs x v).2 ((putK kvs k z).map fun p => p.2) := by
  have e1 := of_keyT e
  subst e1 rk
  unfold putT putK
  rw [any_keysT]
  by_cases c : (kvs.any fun kv => decide (kv.1 = k)) = true
  · rw [if_pos c, if_pos c]
    refine ⟨?_, putT_vals k rv rs⟩
    unfold keysT
    rw [List.map_map]
    refine (List.map_congr_left fun p _ => ?_).symm
    show VV.tup ((if p.1 = k then (p.1, z) else p).1.map vvK) = _
    split <;> rfl
  · rw [if_neg c, if_neg c]
    refine ⟨?_, ?_⟩
    · unfold keysT
      rw [List.map_append]
      rfl
    · rw [List.map_append]
      refine rs.app ?_
      simp only [List.map_cons, List.map_nil, RVs]
      exact ⟨_, _, rfl, rv, rfl⟩
end
theorem Room.u1 {k : Nat} {A : Around} (r : Room k A) : A.units + 1 < cLine := by have := r.un; omega

/-! ### the turns -/
def dcTGo (sv : Sv) (mg : MG) (t : MT) (ek ev : ME) : List VV → KVs → VH → Out KVs
  | [], d, h => .ok d h
  | v :: r, d, h => match mg v with
    | none => .bad
    | some asg => (t (setsV asg sv) h).nox.bind fun b h1 => if b then (ek (setsV asg sv) h1).nox.bind fun x h2 => (ev (setsV asg sv) h2).nox.bind fun y h3 => (match keyT x with
        | some _ => dcTGo sv mg t ek ev r (putT d.1 d.2 x y) h3
        | none => .bad) else dcTGo sv mg t ek ev r d h1
def dcTM (it : MI) (mg : MG) (vs : List Nat) (t : MT) (ek ev : ME) : ME := fun sv h => (it sv h).bind fun items h1 => if fits items.length then (dcTGo (wipeS sv vs) mg t ek ev items ([], []) h1).bind fun d h2 => .ok (.dtt d.1 d.2) h2 else .bad
section
variable {X : Cx} {g : Gx} {W : WX} {tg iter kx vx : Expr} {ifs : List Expr} {scope : Scope} {pos : Pos} {mi : MI} {mg : MG} {is : List Nat} {mt : MT} {mk mv : ME}
theorem dcT_imp {vs : List Nat} (hIn : InIs mg is) (hs : ∀ j ∈ is, j ∈ vs) {σ : L2.St} {H : Hp} {Q : VK} (t : tG X.K g (relV X.K g) (dcTM mi mg vs mt mk mv) W σ H Q) :
    tFz (tDcT (tG X.K g (relI X.K g) mi W) (tGt X.K g mg) (tG X.K g relB mt W0) (tG X.K g (relV X.K g) mk W0) (tG X.K g (relV X.K g) mv W0) vs) σ H Q := by
  obtain ⟨w, sv, h, rs, hk, p⟩ := t
  refine seqG' rs hk p fun w1 H1 h1 items J e1 rs1 k1 r1 p1 => ?_
  intro D hD
  by_cases hf : fits items.length = true
  case neg => rw [if_neg hf] at p1; exact p1.elim
  rw [if_pos hf] at p1
  have hz := fits_le hf
  refine ⟨fun i m H2 => m = items.length - i ∧ i ≤ items.length ∧ ∃ w2 h2 d kvs, Gd w1 H1 D w2 H2 ∧ Hk X.K g.adr w2 h2 H2 ∧ H2 D = some (.dT kvs) ∧ d.1 = keysT kvs ∧ RVs X.K g.adr w2 H2 d.2 (kvs.map fun p => p.2) ∧ kvs.length ≤ i ∧
      RSl X.K g w2 H2 (wipeS sv vs) (wipe σ vs) ∧ Post X.K g (relV X.K g) w1 H1 σ Q W ((dcTGo (wipeS sv vs) mg mt mk mv (items.drop i) d h2).bind fun d h3 => .ok (.dtt d.1 d.2) h3),
    ⟨items.length, by simp, Nat.zero_le _, w1.guard D, h1, ([], []), [], Gd.start k1 hD, guard_hk k1 hD, upd_same, rfl, by simp [RVs], Nat.le_refl _, (rs1.wipe vs).mono _ _ (guard_sees k1 hD), by simpa using p1⟩, ?_⟩
  rintro i m H2 ⟨rfl, hi, w2, h2, d, kvs, gd, k2, hD2, rk, rv, hl, rs2, p2⟩
  by_cases hlt : i < items.length
  · right
    have hv : items[i]? = some items[i] := List.getElem?_eq_getElem hlt
    generalize items[i] = v at hv
    have hdrop : items.drop i = v :: items.drop (i + 1) := by
      rw [List.drop_eq_getElem_cons hlt]
      congr 1
      rw [List.getElem?_eq_getElem hlt] at hv
      exact Option.some.inj hv
    rw [hdrop] at p2
    simp only [dcTGo] at p2
    obtain ⟨go, yl⟩ := r1.step w2 h2 H2 i v gd.sees k2 hv
    refine ⟨go, fun H' => ∃ w3 h3 d kvs, Gd w1 H1 D w3 H' ∧ Hk X.K g.adr w3 h3 H' ∧ H' D = some (.dT kvs) ∧ d.1 = keysT kvs ∧ RVs X.K g.adr w3 H' d.2 (kvs.map fun p => p.2) ∧ kvs.length ≤ i + 1 ∧
      RSl X.K g w3 H' (wipeS sv vs) (wipe σ vs) ∧ Post X.K g (relV X.K g) w1 H1 σ Q W ((dcTGo (wipeS sv vs) mg mt mk mv (items.drop (i + 1)) d h3).bind fun d h3 => .ok (.dtt d.1 d.2) h3),
      fun H' q => ⟨items.length - (i + 1), by omega, rfl, hlt, q⟩, fun x H3 hy => ?_⟩
    obtain ⟨ex, k3, rx⟩ := yl x H3 hy
    cases em : mg v with
    | none => rw [em] at p2; exact p2.elim
    | some asg =>
      rw [em] at p2
      dsimp only at p2
      refine ⟨w2, h2, v, asg, k3, rx, em, fun ya rya => ?_⟩
      have rs3 := (rs2.mono _ _ ex.sees).sets rya
      refine ⟨wipe_eq (is := is) (setsR_length _ _) hs fun j hj => setsR_ne fun p hp z => ?_, ?_⟩
      · obtain ⟨q, hq, e⟩ := rya.ix p hp
        exact hj (by rw [← z, ← e]; exact hIn v asg em q hq)
      generalize setsV asg (wipeS sv vs) = sv2 at rs3 p2
      generalize setsR ya (wipe σ vs) = σ2 at rs3
      rw [Out.bind_assoc] at p2
      have gd3 := gd.ext ex
      have prD : ∀ {wa : Wd} {Ha : Hp} {wb : Wd} {Hb : Hp}, Gd w1 H1 D wa Ha → Ext wa Ha wb Hb → Hb D = Ha D := fun ga e => e.prot D (.inl (by rw [ga.P]; exact .inr rfl))
      have hD3 : H3 D = some (.dT kvs) := (prD gd ex).trans hD2
      refine ⟨w2, sv2, h2, rs3, k3, ?_⟩
      cases et : mt sv2 h2 with
      | bad => rw [et] at p2; exact p2.elim
      | exc x h4 => rw [et] at p2; exact p2.elim
      | ok b h4 =>
        rw [et] at p2
        simp only [Out.nox, Out.bind] at p2
        intro w4 H4 b' e4 k4 eb
        have eb : b = b' := eb
        subst eb
        have gd4 := gd3.ext e4
        have hD4 := (prD gd3 e4).trans hD3
        have se4 := ex.sees.trans e4.sees
        have rs4 := rs2.mono _ _ se4
        cases b with
        | false =>
          rw [if_neg Bool.false_ne_true] at p2 ⊢
          exact ⟨w4, h4, d, kvs, gd4, k4, hD4, rk, RVs.mono se4 _ _ rv, Nat.le_succ_of_le hl, rs4, p2⟩
        | true =>
          rw [if_pos rfl] at p2 ⊢
          refine ⟨w4, sv2, h4, rs3.mono _ _ e4.sees, k4, ?_⟩
          cases ee : mk sv2 h4 with
          | bad => rw [ee] at p2; exact p2.elim
          | exc x h5 => rw [ee] at p2; exact p2.elim
          | ok xk h5 =>
            rw [ee] at p2
            simp only [Out.nox, Out.bind] at p2
            intro w5 H5 y e5 k5 ry
            have gd5 := gd4.ext e5
            have hD5 := (prD gd4 e5).trans hD4
            have se5 := se4.trans e5.sees
            refine ⟨w5, sv2, h5, (rs3.mono _ _ e4.sees).mono _ _ e5.sees, k5, ?_⟩
            cases ev : mv sv2 h5 with
            | bad => rw [ev] at p2; exact p2.elim
            | exc x h6 => rw [ev] at p2; exact p2.elim
            | ok xv h6 =>
              rw [ev] at p2
              simp only [Out.nox, Out.bind] at p2
              intro w6 H6 z e6 k6 rz
              have gd6 := gd5.ext e6
              have hD6 := (prD gd5 e6).trans hD5
              have se6 := se5.trans e6.sees
              cases ek : keyT xk with
              | none => rw [ek] at p2; exact p2.elim
              | some kk =>
                rw [ek] at p2
                dsimp only at p2
                have sg : Sees w6 H6 w6 (upd H6 D (.dT (putK kvs kk z))) := guard_set_sees gd6.P
                obtain ⟨a1, a2⟩ := putT_ok rk (RVs.mono se6 _ _ rv) ek rz
                obtain ⟨qk, eqk, hqk, _⟩ := RV.keyT (RV.mono e6.sees _ _ ry) ek
                refine ⟨kvs, kk, qk, eqk, hqk, hD6, Nat.lt_of_lt_of_le (Nat.lt_of_le_of_lt hl hlt) hz, w6, h6, putT d.1 d.2 xk xv, putK kvs kk z, gd6.set k1 hD, guard_set_hk gd6.P k6, upd_same, a1, RVs.mono sg _ _ a2, ?_, (rs2.mono _ _ se6).mono _ _ sg, p2⟩
                have := length_putK kvs kk z
                omega
  · left
    have e : i = items.length := by omega
    subst e
    refine ⟨r1.stop w2 H2 gd.sees, ?_⟩
    rw [List.drop_length] at p2
    exact fz_dtt k1 hD gd k2 hD2 rk rv p2
/-- {k: v for tg in iter if ..} -/
theorem re_dcT {own : List (Str × Nat)} {k : Nat} (hr : Room k X.A) (hc : X.calm = true) (hN : X.N.Nodup) (hi : RI X g W tg iter mi) (ok : BlkOk X.N X.env.scope scope own) (his : InIs mg is) (hs : ∀ j ∈ is, j ∈ own.map (·.2))
    (hg : ∀ (s : Shared) (H : Hp) (C : Addr) (cl : List (Str × Addr)) (fp : List Addr), RG (X.blk s H scope (compEnvC scope cl C X.env) fp) g tg mg) (ht : ∀ (s : Shared) (H : Hp) (C : Addr) (cl : List (Str × Addr)) (fp : List Addr), RTs (X.blk s H scope (compEnvC scope cl C X.env) fp) g W0 ifs mt)
    (hk : ∀ (s : Shared) (H : Hp) (C : Addr) (cl : List (Str × Addr)) (fp : List Addr), RE (X.blk s H scope (compEnvC scope cl C X.env) fp) g W0 kx mk)
    (he : ∀ (s : Shared) (H : Hp) (C : Addr) (cl : List (Str × Addr)) (fp : List Addr), RE (X.blk s H scope (compEnvC scope cl C X.env) fp) g W0 vx mv) (hf : ∀ x, foldedSetIterable iter X.env x = pure x := by intro _; rfl) :
    RE X g W (.DictComp kx vx [⟨tg, iter, ifs, 0⟩] scope pos) (dcTM mi mg (own.map (·.2)) mt mk mv) :=
  pe_imp (pe_lock (pe_dcT (Room.u1 hr) hc hN hi ok hg ht hk he hf)) fun σ H Q t => dcT_imp his hs t

end
end Mv
set_option Elab.async false
set_option linter.all false
set_option maxRecDepth 100000
/-! Mv, part AH: d[k], k in d, d.get(k, x), len(d). -/
namespace Mv
open PySem PySem.Spec PyProof.Rows L2

/-! ### the machine's side, keys of the written part too -/
def KeyAt (K : PySem.W.Frag) (H : Hp) (y : V) (k : List Key) : Prop := ∃ b, y = .ref b ∧ (H b = some (.tup (k.map kV)) ∨ KTup K b (k.map kV) ∨ ∃ o, H b = some (.frz o (.tup (k.map kV))))
def DGetK (K : PySem.W.Frag) (H : Hp) (a : Addr) (y : V) (r : Option V) : Prop :=
  (∃ kvs k, Rd H a (.dK kvs) ∧ y = kV k ∧ r = valV kvs k) ∨ ∃ kvs k, Rd H a (.dT kvs) ∧ KeyAt K H y k ∧ r = valV kvs k
section
variable {X : Cx} {pins : List (Addr × Obj)} {σ : L2.St} {H : Hp} {s : Shared} {a : Addr} {y v d : V} {u r : Value} {o : Option V} {A : Around} {E : Value → Shared → Prop}
theorem keyAt_is {k : List Key} (I : Inv X pins σ H s) (ka : KeyAt X.K H y k) (ry : RelV y u) : ∃ b, u = .ref b ∧ (tupleKind (mixKind X.prog X.w)).is s.heap k b := by
  obtain ⟨b, rfl, h⟩ := ka
  cases (show u = Value.ref b from ry)
  refine ⟨b, rfl, ?_⟩
  rcases h with h | ⟨o, its, n, h1, h2, h3, _, h4, _⟩ | ⟨o, h⟩
  · exact key_of I.hok h
  · exact ⟨o, its, n, I.kIn _ _ h1, h2, h3, items_are h4⟩
  · obtain ⟨_, _, its, r, ⟨o2, g1, g2, n2, g3⟩⟩ := (show ObjOk X.prog X.w H s.heap b (.frz o (.tup (k.map kV))) from I.hok b _ h)
    exact ⟨o2, _, n2, g1, g2, g3, items_are (by simpa using r)⟩
theorem dk_getItem {Q : Value → Shared → Prop} (hu : A.units + 1 < cLine) (I : Inv X pins σ H s) (g : DGetK X.K H a y (some v)) (ry : RelV y u) (h : ∀ w' s', Inv X pins σ H s' → RelV v w' → Q w' s') :
    wpAny (model X.prog X.w) A (getItem (.ref a) u) Q E s := by
  rcases g with ⟨kvs, k, e, ey, l⟩ | ⟨kvs, k, e, ka, l⟩
  · exact d_getItem hu I (.inl ⟨kvs, k, e, ey, l⟩) ry h
  · obtain ⟨b, rfl, kk⟩ := keyAt_is I ka ry
    obtain ⟨z, hd, xs, rel, dd⟩ := dt_rd I.hok e
    obtain ⟨w', hw, rw'⟩ := RelO.some_of (v := v) (o := (atKey xs k).map (·.2)) (by rw [l]; exact rel.val k)
    obtain ⟨p, hp, hp2⟩ := Option.map_eq_some_iff.mp hw
    refine wpAny_getItem_heap (tupleKind_room_in1 hu) kk dd hp ?_
    rw [hp2]
    exact h w' _ (I.tok _) rw'
theorem dk_in {Q : Value → Shared → Prop} (hu : A.units + 1 < cLine) (I : Inv X pins σ H s) (g : DGetK X.K H a y o) (ry : RelV y u) (h : ∀ s', Inv X pins σ H s' → Q (.bool o.isSome) s') :
    wpAny (model X.prog X.w) A (compareOp .In u (.ref a)) Q E s := by
  rcases g with ⟨kvs, k, e, ey, l⟩ | ⟨kvs, k, e, ka, l⟩
  · exact d_in hu I (.inl ⟨kvs, k, e, ey, l⟩) ry h
  · obtain ⟨b, rfl, kk⟩ := keyAt_is I ka ry
    obtain ⟨z, hd, xs, rel, dd⟩ := dt_rd I.hok e
    refine wpAny_in_heap (tupleKind_room_in1 hu) kk hd dd ?_
    have q := (rel.val k).isSome_eq
    rw [Option.isSome_map] at q
    rw [← q, ← l]
    exact h _ (I.tok _)
theorem dk_notIn {Q : Value → Shared → Prop} (hu : A.units + 1 < cLine) (I : Inv X pins σ H s) (g : DGetK X.K H a y o) (ry : RelV y u) (h : ∀ s', Inv X pins σ H s' → Q (.bool (!o.isSome)) s') :
    wpAny (model X.prog X.w) A (compareOp .NotIn u (.ref a)) Q E s := by
  rcases g with ⟨kvs, k, e, ey, l⟩ | ⟨kvs, k, e, ka, l⟩
  · exact d_notIn hu I (.inl ⟨kvs, k, e, ey, l⟩) ry h
  · obtain ⟨b, rfl, kk⟩ := keyAt_is I ka ry
    obtain ⟨z, hd, xs, rel, dd⟩ := dt_rd I.hok e
    refine wpAny_notIn_heap (tupleKind_room_in1 hu) kk hd dd ?_
    have q := (rel.val k).isSome_eq
    rw [Option.isSome_map] at q
    rw [← q, ← l]
    exact h _ (I.tok _)
theorem dk_get2 {Q : Value → Shared → Prop} (hu : A.units + 1 < cLine) (I : Inv X pins σ H s) (g : DGetK X.K H a y o) (ry : RelV y u) (rd : RelV d r) (h : ∀ w' s', Inv X pins σ H s' → RelV (o.getD d) w' → Q w' s') :
    wpAny (model X.prog X.w) A (call (.builtin "dict.get") [.ref a, u, r]) Q E s := by
  rcases g with ⟨kvs, k, e, ey, l⟩ | ⟨kvs, k, e, ka, l⟩
  · exact d_get2 hu I (.inl ⟨kvs, k, e, ey, l⟩) ry rd h
  · obtain ⟨b, rfl, kk⟩ := keyAt_is I ka ry
    obtain ⟨z, hd, xs, rel, dd⟩ := dt_rd I.hok e
    refine call_meetsIn PySem.F.slot_dict_get dd.typeIs PySem.F.entry_dict_get (PySem.F.args_dict_get_3 _ _ _) (meetsH_dict_get_default (tupleKind (mixKind X.prog X.w)) a b hd r) ⟨tupleKind_room_in1 hu, k, xs, kk, dd, h _ _ (I.tok _) ?_⟩
    rw [l]
    exact (rel.val k).getD rd
theorem dk_typeIs (I : Inv X pins σ H s) (g : DGetK X.K H a y o) : s.TypeIs (.ref a) "dict" := by
  rcases g with ⟨kvs, k, e, _, _⟩ | ⟨kvs, k, e, _, _⟩
  · exact (isD_at I (.inl ⟨kvs, e⟩)).1
  · exact (isD_at I (.inr ⟨kvs, e⟩)).1
end
section
variable {X : Cx}
def rIxDK (K : PySem.W.Frag) : R2 := fun x y H Q => ∃ a v, x = .ref a ∧ DGetK K H a y (some v) ∧ Q v H
theorem ix_dk (hu : X.A.units + 1 < cLine) : IxR X (rIxDK X.K) := by
  intro value slice pins s σ H x y v u Q I rx ry h hs
  obtain ⟨a, z, rfl, g, q⟩ := h
  cases (show v = Value.ref a from rx)
  exact tail_any (dk_typeIs I g) PySem.F.slot_dict_getitem.lookup (dk_getItem hu I g ry fun w' s3 I3 rw' => ⟨z, H, I3, rw', q⟩) hs
def rInDK (K : PySem.W.Frag) (neg : Bool) : R2 := fun y x H Q => ∃ a o, x = .ref a ∧ DGetK K H a y o ∧ Q (.bl (if neg then !o.isSome else o.isSome)) H
theorem op_inDK (hu : X.A.units + 1 < cLine) : OpR X (compareOp .In) (rInDK X.K false) := by
  intro pins s σ H y x u v Q I ry rx h
  obtain ⟨a, o, rfl, g, q⟩ := h
  cases (show v = Value.ref a from rx)
  exact dk_in hu I g ry fun s3 I3 => ⟨.bl o.isSome, H, I3, rfl, q⟩
theorem op_notInDK (hu : X.A.units + 1 < cLine) : OpR X (compareOp .NotIn) (rInDK X.K true) := by
  intro pins s σ H y x u v Q I ry rx h
  obtain ⟨a, o, rfl, g, q⟩ := h
  cases (show v = Value.ref a from rx)
  exact dk_notIn hu I g ry fun s3 I3 => ⟨.bl (!o.isSome), H, I3, rfl, q⟩
theorem OpR.or {f : Value → Value → Sem Value} {r r' : R2} (h : OpR X f r) (h' : OpR X f r') : OpR X f (fun x y H Q => r x y H Q ∨ r' x y H Q) := by
  intro pins s σ H x y v u Q I rx ry q
  rcases q with q | q
  · exact h pins s σ H x y v u Q I rx ry q
  · exact h' pins s σ H x y v u Q I rx ry q
def tDGet2K (K : PySem.W.Frag) (td ty tx : TE) : TE := fun σ H Q => td σ H fun x H1 => ∃ a, x = .ref a ∧ IsD H1 a ∧ ty σ H1 fun y H2 => tx σ H2 fun z H3 => ∃ o, DGetK K H3 a y o ∧ Q (o.getD z) H3
theorem pe_dget2K {o e f : Expr} {apos cpos : Pos} {td ty tx : TE} (hu : X.A.units + 1 < cLine) (ho : PE X o td) (he : PE X e ty) (hf : PE X f tx) (m : M2 X o "get" apos e f cpos) : PE X (.Call (.Attribute o "get" apos) [e, f] [] cpos) (tDGet2K X.K td ty tx) := by
  refine ⟨fun pins s σ H Q I h => ?_⟩
  refine wpAny_Call_method m.base m.few m.line PySem.F.plainAttrs_dict PySem.F.slot_dict_get PySem.F.type_dict_get (thn (ho.run pins s σ H _ I h) fun u s1 ⟨x, H1, I1, rx, a, ex, d, q1⟩ => ?_)
  subst ex
  obtain rfl : u = Value.ref a := rx
  obtain ⟨t1, t2, _⟩ := isD_at I1 d
  refine ⟨t1, t2, ?_⟩
  rw [m.trees]
  refine Calls.callWith_builtin rfl (Calls.evalArgs_plain (Calls.spliced_cons (thn (he.run pins s1 σ H1 _ I1 q1) fun iv s2 ⟨y, H2, I2, ry, q2⟩ =>
    Calls.spliced_cons (thn (hf.run pins s2 σ H2 _ I2 q2) fun fv s3 ⟨z, H3, I3, rz, ov, g, q3⟩ => Calls.spliced_nil ?_))))
  exact dk_get2 hu I3 g ry rz fun w' s4 I4 rw' => ⟨_, H3, I4, rw', q3⟩
end

/-! ### the mirror's side -/
def dictK (h : VH) : VV → Option (List VV × List VV)
  | .dct ks vs => some (ks, vs)
  | .ref n => (match h[n]? with | some (.dct ks vs) => some (ks, vs) | _ => none)
  | _ => none
def dictT (h : VH) : VV → Option (List VV × List VV)
  | .dtt ks vs => some (ks, vs)
  | .ref n => (match h[n]? with | some (.dtt ks vs) => some (ks, vs) | _ => none)
  | _ => none
def findK : List VV → List VV → VV → Option VV
  | k :: ks, v :: vs, y => if sameK k y then some v else findK ks vs y
  | _, _, _ => none
def findT : List VV → List VV → VV → Option VV
  | k :: ks, v :: vs, y => if sameT k y then some v else findT ks vs y
  | _, _, _ => none
/-- a key, wherever it stands -/
def keyU : VV → Option VV
  | .tup xs => (keysOf xs).map fun _ => .tup xs
  | .ktu xs => (keysOf xs).map fun _ => .tup xs
  | _ => none
def dgetO (h : VH) (x y : VV) : Option (Option VV) := match dictT h x with
  | some (ks, vs) => (keyU y).map fun k => findT ks vs k
  | none => (match dictK h x with
    | some (ks, vs) => (keyOf y).map fun _ => findK ks vs y
    | none => none)
section
variable {K : PySem.W.Frag} {g : Gx} {w : Wd} {H : Hp} {h : VH} {G : Nat → Addr}
theorem dictT_ok {x : VV} {vx : V} {ks vs : List VV} (hk : Hk K g.adr w h H) (e : dictT h x = some (ks, vs)) (r : RV K g.adr w H x vx) : ∃ a kvs, vx = .ref a ∧ Rd H a (.dT kvs) ∧ ks = keysT kvs ∧ RVs K g.adr w H vs (kvs.map fun p => p.2) := by
  cases x with
  | dtt k2 v2 =>
    simp only [dictT, Option.some.injEq, Prod.mk.injEq] at e
    obtain ⟨rfl, rfl⟩ := e
    simp only [RV] at r
    obtain ⟨a, kvs, rfl, ⟨o, h1, _⟩, h2, h3⟩ := r
    exact ⟨a, kvs, rfl, .inr ⟨o, h1⟩, h2, h3⟩
  | ref n =>
    simp only [dictT] at e
    split at e
    · rename_i k2 v2 e2
      simp only [Option.some.injEq, Prod.mk.injEq] at e
      obtain ⟨rfl, rfl⟩ := e
      obtain ⟨a, rfl, _, kvs, h1, h2, h3⟩ := ref_obj hk r e2 (fun z => nomatch z)
      exact ⟨a, kvs, rfl, .inl h1, h2, h3⟩
    · cases e
  | _ => simp only [dictT] at e; cases e
theorem dictK_ok {x : VV} {vx : V} {ks vs : List VV} (hk : Hk K g.adr w h H) (e : dictK h x = some (ks, vs)) (r : RV K g.adr w H x vx) : ∃ a kvs, vx = .ref a ∧ Rd H a (.dK kvs) ∧ RVs K g.adr w H ks (kvs.map fun p => kV p.1) ∧ RVs K g.adr w H vs (kvs.map fun p => p.2) := by
  cases x with
  | dct k2 v2 =>
    simp only [dictK, Option.some.injEq, Prod.mk.injEq] at e
    obtain ⟨rfl, rfl⟩ := e
    simp only [RV] at r
    obtain ⟨a, kvs, rfl, ⟨o, h1, _⟩, h2, h3⟩ := r
    exact ⟨a, kvs, rfl, .inr ⟨o, h1⟩, h2, h3⟩
  | ref n =>
    simp only [dictK] at e
    split at e
    · rename_i k2 v2 e2
      simp only [Option.some.injEq, Prod.mk.injEq] at e
      obtain ⟨rfl, rfl⟩ := e
      obtain ⟨a, rfl, _, kvs, h1, h2, h3⟩ := ref_obj hk r e2 (fun z => nomatch z)
      exact ⟨a, kvs, rfl, .inl h1, h2, h3⟩
    · cases e
  | _ => simp only [dictK] at e; cases e
theorem keyU_ok {y k : VV} {vy : V} (e : keyU y = some k) (r : RV K G w H y vy) : ∃ kk : List Key, k = .tup (kk.map vvK) ∧ KeyAt K H vy kk := by
  cases y with
  | tup xs =>
    simp only [keyU, Option.map_eq_some_iff] at e
    obtain ⟨kk, e1, rfl⟩ := e
    have e2 := of_keysOf e1
    subst e2
    simp only [RV] at r
    obtain ⟨a, ys, rfl, ⟨h1, _⟩, r1⟩ := r
    rw [RVs.kVs r1] at h1
    exact ⟨kk, rfl, a, rfl, .inl h1⟩
  | ktu xs =>
    simp only [keyU, Option.map_eq_some_iff] at e
    obtain ⟨kk, e1, rfl⟩ := e
    have e2 := of_keysOf e1
    subst e2
    simp only [RV] at r
    obtain ⟨a, ys, rfl, h1, r1⟩ := r
    rw [RVs.kVs r1] at h1
    exact ⟨kk, rfl, a, rfl, .inr (h1.imp id fun ⟨o, q, _⟩ => ⟨o, q⟩)⟩
  | _ => simp only [keyU] at e; cases e
/-- what was found stands for what is there -/
def relF (K : PySem.W.Frag) (G : Nat → Addr) (w : Wd) (H : Hp) : Option VV → Option V → Prop
  | some v, some z => RV K G w H v z
  | none, none => True
  | _, _ => False
theorem findT_ok (k : List Key) : ∀ {kvs : List (List Key × V)} {vs : List VV}, RVs K G w H vs (kvs.map fun p => p.2) → relF K G w H (findT (keysT kvs) vs (.tup (k.map vvK))) (valV kvs k)
  | [], [], _ => True.intro
  | [], _ :: _, _ => True.intro
  | p :: kvs, [], r => by simp [RVs] at r
  | p :: kvs, x :: xs, r => by
    simp only [List.map_cons, RVs] at r
    obtain ⟨y, r2, e, h1, h2⟩ := r
    injection e with e1 e2
    subst e1 e2
    have ih := findT_ok k h2
    unfold keysT at ih ⊢
    rw [List.map_cons]
    unfold findT
    rw [sameT_vvK]
    by_cases c : p.1 = k
    · rw [valV_pos c, if_pos (by simpa using c)]
      exact h1
    · rw [valV_neg c, if_neg (by simpa using c)]
      exact ih
theorem findK_ok (k : Key) : ∀ {kvs : List (Key × V)} {vs : List VV}, RVs K G w H vs (kvs.map fun p => p.2) → relF K G w H (findK (kvs.map fun p => vvK p.1) vs (vvK k)) (valV kvs k)
  | [], [], _ => True.intro
  | [], _ :: _, _ => True.intro
  | p :: kvs, [], r => by simp [RVs] at r
  | p :: kvs, x :: xs, r => by
    simp only [List.map_cons, RVs] at r
    obtain ⟨y, r2, e, h1, h2⟩ := r
    injection e with e1 e2
    subst e1 e2
    have ih := findK_ok k h2
    rw [List.map_cons]
    unfold findK
    rw [sameK_vvK]
    by_cases c : p.1 = k
    · rw [valV_pos c, if_pos (by simpa using c)]
      exact h1
    · rw [valV_neg c, if_neg (by simpa using c)]
      exact ih
theorem dgetO_ok {x y : VV} {vx vy : V} {r : Option VV} (hk : Hk K g.adr w h H) (e : dgetO h x y = some r) (rx : RV K g.adr w H x vx) (ry : RV K g.adr w H y vy) : ∃ a o, vx = .ref a ∧ DGetK K H a vy o ∧ relF K g.adr w H r o := by
  unfold dgetO at e
  split at e
  · rename_i ks vs e1
    obtain ⟨k, e2, rfl⟩ := Option.map_eq_some_iff.mp e
    obtain ⟨a, kvs, rfl, h1, rfl, h3⟩ := dictT_ok hk e1 rx
    obtain ⟨kk, rfl, ka⟩ := keyU_ok e2 ry
    exact ⟨a, _, rfl, .inr ⟨kvs, kk, h1, ka, rfl⟩, findT_ok kk h3⟩
  · split at e
    · rename_i ks vs e1
      obtain ⟨k, e2, rfl⟩ := Option.map_eq_some_iff.mp e
      obtain ⟨a, kvs, rfl, h1, h2, h3⟩ := dictK_ok hk e1 rx
      have e3 := h2.keys
      have e4 := of_keyOf e2
      subst e3 e4
      exact ⟨a, _, rfl, .inl ⟨kvs, k, h1, ry.key e2, rfl⟩, findK_ok k h3⟩
    · cases e
end
/-- a[b], a a sequence or a dict -/
def ixA : V2 := fun x y h => match dgetO h x y with
  | some (some v) => .ok v h
  | some none => .bad
  | none => ixV x y h
def rIxA (K : PySem.W.Frag) : R2 := fun x y H Q => rIx K x y H Q ∨ rIxDK K x y H Q
theorem ixAS {K : PySem.W.Frag} {g : Gx} : OpS K g (rIxA K) ixA := by
  intro w h H σ W Q x y vx vy hk rx ry p
  unfold ixA at p
  split at p
  · rename_i v e
    obtain ⟨a, o, rfl, d, rf⟩ := dgetO_ok hk e rx ry
    cases o with
    | none => exact rf.elim
    | some z => exact .inr ⟨a, z, rfl, d, Post.here p hk rf⟩
  · exact p.elim
  · exact .inl (ixS w h H σ W Q x y vx vy hk rx ry p)
section
variable {X : Cx} {g : Gx} {W : WX} {a b : Expr} {ma mb : ME} {pos : Pos}
theorem re_ixA {k : Nat} (hr : Room k X.A) (ha : RE X g W a ma) (hb : RE X g W b mb) (hs : PlainIx b := by intro _ _; rfl) : RE X g W (.Subscript a b pos) (opM ixA ma mb) :=
  pe_imp (pe_ix (ix_seq.or (ix_dk (Room.u1 hr))) ha hb hs) fun σ H Q t => op_imp ixAS t
end
/-- x in y, y a dict or what is flat -/
def inA (neg : Bool) : V2 := fun x y h => match dgetO h y x with
  | some o => .ok (.bl (if neg then !o.isSome else o.isSome)) h
  | none => inF neg x y h
def rInA (K : PySem.W.Frag) (neg : Bool) : R2 := fun x y H Q => rIn K neg x y H Q ∨ rInDK K neg x y H Q
theorem inAS {K : PySem.W.Frag} {g : Gx} {neg : Bool} : OpS K g (rInA K neg) (inA neg) := by
  intro w h H σ W Q x y vx vy hk rx ry p
  unfold inA at p
  split at p
  · rename_i o e
    obtain ⟨a, o2, rfl, d, rf⟩ := dgetO_ok hk e ry rx
    have es : o.isSome = o2.isSome := by
      cases o <;> cases o2 <;> first | rfl | exact rf.elim
    rw [es] at p
    exact .inr ⟨a, o2, rfl, d, post_bl p hk⟩
  · exact .inl (inS w h H σ W Q x y vx vy hk rx ry p)
theorem op_inA {X : Cx} {k : Nat} (hr : Room k X.A) : OpR X (compareOp .In) (rInA X.K false) := OpR.or op_in_seq (op_inDK (Room.u1 hr))
theorem op_notInA {X : Cx} {k : Nat} (hr : Room k X.A) : OpR X (compareOp .NotIn) (rInA X.K true) := OpR.or op_notIn_seq (op_notInDK (Room.u1 hr))
/-- d.get(k, x) -/
def getM (md mk mx : ME) : ME := fun sv h => (md sv h).bind fun d h1 => match (dictT h1 d).isSome || (dictK h1 d).isSome with
  | true => (mk sv h1).bind fun k h2 => (mx sv h2).bind fun x h3 => (match dgetO h3 d k with
    | some (some v) => .ok v h3
    | some none => .ok x h3
    | none => .bad)
  | false => .bad
section
variable {X : Cx} {g : Gx} {W : WX} {o e f : Expr} {md mk mx : ME} {apos cpos : Pos}
theorem re_get {k : Nat} (hr : Room k X.A) (ho : RE X g W o md) (he : RE X g W e mk) (hf : RE X g W f mx) (m : M2 X o "get" apos e f cpos) : RE X g W (.Call (.Attribute o "get" apos) [e, f] [] cpos) (getM md mk mx) :=
  pe_imp (pe_dget2K (Room.u1 hr) ho he hf m) fun σ H Q ⟨w, sv, h, rs, hk, p⟩ => by
    refine seqG' rs hk p fun w1 H1 h1 d vd e1 rs1 k1 r1 p1 => ?_
    split at p1
    · rename_i c
      have hd : ∃ a, vd = .ref a ∧ IsD H1 a := by
        rcases Bool.or_eq_true_iff.mp c with c | c
        · obtain ⟨⟨ks, vs⟩, e2⟩ := Option.isSome_iff_exists.mp c
          obtain ⟨a, kvs, rfl, q, _⟩ := dictT_ok k1 e2 r1
          exact ⟨a, rfl, .inr ⟨kvs, q⟩⟩
        · obtain ⟨⟨ks, vs⟩, e2⟩ := Option.isSome_iff_exists.mp c
          obtain ⟨a, kvs, rfl, q, _⟩ := dictK_ok k1 e2 r1
          exact ⟨a, rfl, .inl ⟨kvs, q⟩⟩
      obtain ⟨a, rfl, isd⟩ := hd
      refine ⟨a, rfl, isd, ?_⟩
      refine seqG' rs1 k1 p1 fun w2 H2 h2 y vy e2 rs2 k2 r2 p2 => ?_
      refine seqG' rs2 k2 p2 fun w3 H3 h3 x vx e3 rs3 k3 r3 p3 => ?_
      split at p3
      · rename_i v e4
        obtain ⟨b, o2, eb, d2, rf⟩ := dgetO_ok k3 e4 (RV.mono (e2.sees.trans e3.sees) _ _ r1) (RV.mono e3.sees _ _ r2)
        cases eb
        cases o2 with
        | none => exact rf.elim
        | some z => exact ⟨some z, d2, Post.here p3 k3 rf⟩
      · rename_i e4
        obtain ⟨b, o2, eb, d2, rf⟩ := dgetO_ok k3 e4 (RV.mono (e2.sees.trans e3.sees) _ _ r1) (RV.mono e3.sees _ _ r2)
        cases eb
        cases o2 with
        | none => exact ⟨none, d2, Post.here p3 k3 r3⟩
        | some z => exact rf.elim
      · exact p3.elim
    · exact p1.elim
end
/-- len, of dicts too -/
def lenAF : VF := fun xs h => match xs with
  | [x] => (match dictT h x with
    | some (ks, vs) => .ok (.int vs.length) h
    | none => (match dictK h x with
      | some (ks, vs) => .ok (.int vs.length) h
      | none => lenF [x] h))
  | _ => .bad
def rLenA (K : PySem.W.Frag) : List V → Hp → VK → Prop := fun xs H Q => (∃ x n, xs = [x] ∧ LenV K x H n ∧ Q (.int n) H) ∨ (∃ a kvs, xs = [.ref a] ∧ Rd H a (.dT kvs) ∧ Q (.int kvs.length) H) ∨ ∃ a kvs, xs = [.ref a] ∧ Rd H a (.dK kvs) ∧ Q (.int kvs.length) H
theorem call_lenA {X : Cx} : CallR X (.builtin "len") (rLenA X.K) := by
  refine CallR.or call_len (CallR.or ?_ ?_)
  · intro pins s σ H xs us Q I r h
    obtain ⟨p, kvs, rfl, hp, q⟩ := h
    obtain ⟨u, rfl, rx⟩ := r.one
    obtain rfl : u = .ref p := rx
    obtain ⟨z, hd, ys, rel, dd⟩ := dt_rd I.hok hp
    have hl : kvs.length = ys.length := Paired.length rel
    refine call_len_dictH hd dd (by rw [← hl]; rw [sizeLine_eq] at z; omega) ?_
    rw [← hl]
    exact ⟨.int ((kvs.length : Nat) : Int), H, I.tok _, ⟨_, rfl⟩, q⟩
  · intro pins s σ H xs us Q I r h
    obtain ⟨p, kvs, rfl, hp, q⟩ := h
    obtain ⟨u, rfl, rx⟩ := r.one
    obtain rfl : u = .ref p := rx
    exact d_len I hp fun t s' I' => ⟨.int kvs.length, H, I', ⟨_, rfl⟩, q⟩
theorem lenAS {K : PySem.W.Frag} {g : Gx} : CallS K g (rLenA K) lenAF := by
  intro w h H σ W Q xs vs hk r p
  unfold lenAF at p
  split at p
  · split at p
    · rename_i ks vs2 e
      obtain ⟨y, rfl, r1⟩ := r.one
      obtain ⟨a, kvs, rfl, h1, h2, h3⟩ := dictT_ok hk e r1
      refine .inr (.inl ⟨a, kvs, rfl, h1, ?_⟩)
      have el := h3.length
      rw [List.length_map] at el
      rw [← el]
      exact post_int p hk
    · split at p
      · rename_i ks vs2 e
        obtain ⟨y, rfl, r1⟩ := r.one
        obtain ⟨a, kvs, rfl, h1, h2, h3⟩ := dictK_ok hk e r1
        refine .inr (.inr ⟨a, kvs, rfl, h1, ?_⟩)
        have el := h3.length
        rw [List.length_map] at el
        rw [← el]
        exact post_int p hk
      · exact .inl (lenS w h H σ W Q _ vs hk r p)
  · exact p.elim
end Mv
set_option Elab.async false
set_option linter.all false
set_option maxRecDepth 100000
/-! Mv, part AI: d[k] = v, {} of one's own, walks over dicts. -/
namespace Mv
open PySem PySem.Spec PyProof.Rows L2

/-! ### an object of the small heap is written -/
section
variable {K : PySem.W.Frag} {g : Gx} {w : Wd} {H : Hp} {h : VH} {sl : Sl} {σ : L2.St} {n : Nat} {a : Addr} {o : HO} {vo : VO}
theorem refset_sees (hn : w.phi[n]? = some (some a)) : Sees w H w (upd H a o) := ownset_sees (.inl (List.mem_of_getElem? hn))
theorem Hk.refsetO (k : Hk K g.adr w h H) (hn : w.phi[n]? = some (some a)) (r : RO K g.adr w (upd H a o) vo a) (hd : dat o = true := by rfl) : Hk K g.adr w (h.set n vo) (upd H a o) where
  len := by rw [List.length_set]; exact k.len
  inj := k.inj
  obj := fun m b hm => by
    have se : Sees w H w (upd H a o) := refset_sees hn
    obtain ⟨u, h1, h3⟩ := k.obj m b hm
    by_cases e : m = n
    · subst e
      rw [hn] at hm
      cases hm
      refine ⟨vo, ?_, r⟩
      rw [List.getElem?_set_self (List.getElem?_eq_some_iff.mp h1).1]
    · refine ⟨u, by rw [List.getElem?_set_ne (Ne.symm e)]; exact h1, RO.mono se u b (fun z q => ?_) h3⟩
      rw [upd_ne (show b ≠ a from fun z => e (k.inj m n a (by rw [← z]; exact hm) hn))]
      exact q
  has := fun m u hm hu => by
    by_cases e : m = n
    · subst e
      exact ⟨a, hn⟩
    · rw [List.getElem?_set_ne (Ne.symm e)] at hm
      exact k.has m u hm hu
  prot := fun b hb => by
    obtain ⟨h1, h2⟩ := k.prot b hb
    refine ⟨?_, h2⟩
    by_cases e : b = a
    · rw [e, upd_same]
      simp
    · rw [upd_ne e]
      exact h1
  own := k.own
  ownI := k.ownI
  spc := k.spc.put hd
end
def rSetD : V → V → V → Hp → (Hp → Prop) → Prop := fun o i v H Q => ∃ a H', o = .ref a ∧ DPut H a i v H' ∧ Q H'
def rSetA : V → V → V → Hp → (Hp → Prop) → Prop := fun o i v H Q => rSetL o i v H Q ∨ rSetD o i v H Q
theorem set_A {X : Cx} (hu : X.A.units + 1 < cLine) : PSet X rSetA := by
  intro pins s σ H o i v ov iv u Q I ro ri rv h
  rcases h with h | ⟨a, H', rfl, d, q⟩
  · exact set_list pins s σ H o i v ov iv u Q I ro ri rv h
  · cases (show ov = Value.ref a from ro)
    exact d_setItem hu I d ri rv fun s4 I4 => ⟨H', I4, q⟩
/-- o[i] = v, a list or a dict of the small heap -/
def setAM (mo mi me : ME) : MS := fun sl h => (me (view sl) h).toS sl fun v h1 => (mo (view sl) h1).toS sl fun o h2 => (mi (view sl) h2).toS sl fun i h3 => match o with
  | .ref n => (match h3[n]? with
    | some (.lst xs) => (match i with
      | .int k => (match ixN xs.length k with
        | some j => .nx sl (h3.set n (.lst (xs.set j v)))
        | none => .bad)
      | _ => .bad)
    | some (.dtt ks vs) => (match keyT i with
      | some _ => if fits (vs.length + 1) then .nx sl (h3.set n (.dtt (putT ks vs i v).1 (putT ks vs i v).2)) else .bad
      | none => .bad)
    | some (.dct ks vs) => (match keyOf i with
      | some _ => if fits (vs.length + 1) then .nx sl (h3.set n (.dct (putL ks vs i v).1 (putL ks vs i v).2)) else .bad
      | none => .bad)
    | _ => .bad)
  | _ => .bad
section
variable {X : Cx} {g : Gx} {W : WX} {e o e2 : Expr} {me mo mi : ME} {pos : Pos}
theorem rs_setA {k : Nat} {ip : Pos} (hr : Room k X.A) (he : RE X g W e me) (ho : RE X g W o mo) (hi : RE X g W e2 mi)
    (ha : ∀ v, assign (.Subscript o e2 ip) X.env v = (do
      let ov ← holding [v] (eval o X.env)
      let iv ← holding [v, ov] (eval e2 X.env)
      standAt ip
      holding [v, ov, iv] (setItem ov iv v)
      release [v, ov, iv] []) := by intro _; rfl)
    (hs : swapsWithSole [.Subscript o e2 ip] e pos.line X.env = pure false := by rfl) (hw : swappedStores [.Subscript o e2 ip] e X.env = pure none := by rfl)
    (h1 : (assignEach [.Subscript o e2 ip] X.env).map (·.2) = [assign (.Subscript o e2 ip) X.env] := by rfl) : RS X g W (.Assign [.Subscript o e2 ip] e pos) (setAM mo mi me) :=
  ps_imp (ps_asg he (pg_sub ho hi (set_A (Room.u1 hr)) ha) hs hw h1) fun D σ H ⟨w, sl, h, f, k, p⟩ => by
    refine seqS f k p fun w1 H1 h1 v y e1 f1 k1 r1 p1 => ?_
    refine seqS f1 k1 p1 fun w2 H2 h2 v2 y2 e2 f2 k2 r2 p2 => ?_
    refine seqS f2 k2 p2 fun w3 H3 h3 v3 y3 e3 f3 k3 r3 p3 => ?_
    have r1' := RV.mono (e2.trans e3).sees _ _ r1
    have r2' := RV.mono e3.sees _ _ r2
    split at p3
    · rename_i n
      split at p3
      · rename_i xs eh
        split at p3
        · rename_i kk
          split at p3
          · rename_i jj ej
            obtain ⟨a, ys, rfl, hn, ha, rx⟩ := ref_get k3 r2' eh
            have e4 : y3 = .int kk := by simpa only [relV, RV] using r3
            refine .inl ⟨a, ys, kk, jj, rfl, e4, ha, by rw [← rx.length]; exact ej, ?_⟩
            exact p3 w3 _ σ (refset_ext k3 hn) (k3.refset hn (RVs.set jj rx r1')) (f3.refset k3 hn)
          · exact p3.elim
        · exact p3.elim
      · rename_i ks vs eh
        split at p3
        · rename_i kk ek
          split at p3
          · rename_i hf
            obtain ⟨a, rfl, hn, kvs, ha, hks, rx⟩ := ref_obj k3 r2' eh (fun z => nomatch z)
            obtain ⟨b, rfl, hb, _⟩ := RV.keyT r3 ek
            have hl := rx.length
            rw [List.length_map] at hl
            have hz := fits_le hf
            refine .inr ⟨a, _, rfl, DPut.t ha hb (by omega), ?_⟩
            have sg : Sees w3 H3 w3 (upd H3 a (.dT (putK kvs kk y))) := refset_sees hn
            obtain ⟨q1, q2⟩ := putT_ok hks rx ek r1'
            exact p3 w3 _ σ (refset_ext k3 hn) (k3.refsetO hn ⟨_, upd_same, q1, RVs.mono sg _ _ q2⟩) (f3.refset k3 hn)
          · exact p3.elim
        · exact p3.elim
      · rename_i ks vs eh
        split at p3
        · rename_i kk ek
          split at p3
          · rename_i hf
            obtain ⟨a, rfl, hn, kvs, ha, hks, rx⟩ := ref_obj k3 r2' eh (fun z => nomatch z)
            have ey := r3.key ek
            subst ey
            have hl := rx.length
            rw [List.length_map] at hl
            have hz := fits_le hf
            refine .inr ⟨a, _, rfl, DPut.k ha (by omega), ?_⟩
            have sg : Sees w3 H3 w3 (upd H3 a (.dK (putK kvs kk y))) := refset_sees hn
            obtain ⟨q1, q2⟩ := put_ok hks rx ek r1'
            exact p3 w3 _ σ (refset_ext k3 hn) (k3.refsetO hn ⟨_, upd_same, RVs.mono sg _ _ q1, RVs.mono sg _ _ q2⟩) (f3.refset k3 hn)
          · exact p3.elim
        · exact p3.elim
      · exact p3.elim
    · exact p3.elim
/-- {} of one's own, with tuple keys to come; with plain ones -/
def newDT : ME := fun _ h => .ok (.ref h.length) (h ++ [.dtt [] []])
def newDK : ME := fun _ h => .ok (.ref h.length) (h ++ [.dct [] []])
theorem ref_new {K : PySem.W.Frag} {w : Wd} {H H' : Hp} {h : VH} {q : Addr} (k1 : Hk K g.adr w h H) : RV K g.adr (w.push q) H' (.ref h.length) (.ref q) := by
  simp only [RV]
  refine ⟨q, rfl, by unfold Wd.push; simp [k1.len], fun b hb => ?_⟩
  unfold Wd.push at hb
  rw [← k1.len] at hb
  simp at hb
  exact hb.symm
theorem re_newDT : RE X g W (.Dict [] [] pos) newDT := pe_imp pe_dnewT fun σ H Q ⟨w, sv, h, rs, hk, p⟩ q hq => by
  have ex := Ext.push (o := .dT []) hk hq
  exact p _ _ _ ex (Hk.push hk hq ⟨[], upd_same, rfl, by simp [RVs]⟩) (ref_new hk)
theorem re_newDK : RE X g W (.Dict [] [] pos) newDK := pe_imp pe_dnewK fun σ H Q ⟨w, sv, h, rs, hk, p⟩ q hq => by
  have ex := Ext.push (o := .dK []) hk hq
  exact p _ _ _ ex (Hk.push hk hq ⟨[], upd_same, by simp [RVs], by simp [RVs]⟩) (ref_new hk)
end

/-! ### for k in d -/
section
variable {K : PySem.W.Frag} {g : Gx} {w : Wd} {H : Hp}
theorem itk_ok {a : Addr} {o : Obj} {kvs : List (Key × V)} {ks : List VV} (st : ∀ w1 H1, Sees w H w1 H1 → H1 a = some (.frz o (.dK kvs))) (e : ks = kvs.map fun p => vvK p.1) : ItOk K g w H ks (Itk a o kvs) where
  step := fun w1 h1 H1 i v s k q => by
    subst e
    rw [List.getElem?_map] at q
    cases eq : kvs[i]? with
    | none => rw [eq] at q; cases q
    | some p =>
      rw [eq] at q
      have hv := Option.some.inj q
      subst hv
      refine ⟨⟨st w1 H1 s, (List.getElem?_eq_some_iff.mp eq).1⟩, fun x H2 hy => ?_⟩
      obtain ⟨e2, k2, v2, e3, e4⟩ := hy
      subst e2 e4
      rw [eq] at e3
      cases e3
      exact ⟨Ext.refl _ _, k, RV.to_kV _⟩
  stop := fun w1 H1 s => ⟨st w1 H1 s, by rw [e, List.length_map]; exact Nat.le_refl _⟩
theorem itkt_ok {a : Addr} {o : Obj} {kvs : List (List Key × V)} {ks : List VV} (st : ∀ w1 H1, Sees w H w1 H1 → H1 a = some (.frz o (.dT kvs))) (e : ks = keysT kvs) : ItOk K g w H ks (Itkt a o kvs) where
  step := fun w1 h1 H1 i v s k q => by
    subst e
    unfold keysT at q
    rw [List.getElem?_map] at q
    cases eq : kvs[i]? with
    | none => rw [eq] at q; cases q
    | some p =>
      rw [eq] at q
      have hv := Option.some.inj q
      subst hv
      refine ⟨⟨st w1 H1 s, (List.getElem?_eq_some_iff.mp eq).1⟩, fun x H2 hy => ?_⟩
      obtain ⟨e2, k2, v2, b, e3, e4, e5⟩ := hy
      subst e2 e4
      rw [eq] at e3
      cases e3
      refine ⟨Ext.refl _ _, k, ?_⟩
      simp only [RV]
      exact ⟨b, _, rfl, ⟨e5, k.spc b _ e5⟩, RVs.of_kVs _⟩
  stop := fun w1 H1 s => ⟨st w1 H1 s, by rw [e]; unfold keysT; rw [List.length_map]; exact Nat.le_refl _⟩
end
section
variable {X : Cx} {tg : Expr}
/-- a list, a tuple, a dict that is locked -/
theorem pi_any {l : Expr} {tl : TE} (hl : PE X l tl) : PI X tg l (fun σ H R => tl σ H fun x H1 => ∃ a, x = .ref a ∧ (((∃ xs, SqL X.K H1 a xs) ∧ R (Itl X.K a) H1) ∨ ((∃ xs, SqT X.K H1 a xs) ∧ R (Itt X.K a) H1) ∨
    (∃ o kvs, H1 a = some (.frz o (.dK kvs)) ∧ R (Itk a o kvs) H1) ∨ ∃ o kvs, H1 a = some (.frz o (.dT kvs)) ∧ R (Itkt a o kvs) H1)) := by
  refine ⟨fun pins s σ H R I h => ?_⟩
  refine thn (hl.run pins s σ H _ I h) fun v s1 ⟨x, H1, I1, r1, a, e, q1⟩ => ?_
  subst e
  cases r1
  rcases q1 with ⟨⟨xs, hq⟩, q⟩ | ⟨⟨xs, hq⟩, q⟩ | ⟨o, kvs, hd, q⟩ | ⟨o, kvs, hd, q⟩
  · obtain ⟨its, rv, p, hz⟩ := I1.list hq
    refine wpAny_pyIter_list p.isList ?_
    refine ⟨s1.heap.objs.size, [s1.heap.objs.size], _, _, H1, rfl, I1.kept (t' := s1.toks) fun b o e => Heap.get?_push_of_some _ e, turn_list a _, ⟨_, Heap.get?_push_size _ rfl, rfl, rfl⟩, fun b hb => ?_, q⟩
    have e : b = s1.heap.objs.size := by simpa using hb
    subst e
    exact I1.fpOk (Nat.le_refl _) (I1.hok.fresh (Nat.le_refl _))
  · obtain ⟨its, rv, p, hz⟩ := I1.tuple hq
    refine wpAny_pyIter_tuple (show s1.heap.IsTuple a its.toArray from p) ?_
    refine ⟨s1.heap.objs.size, [s1.heap.objs.size], _, _, H1, rfl, I1.kept (t' := s1.toks) fun b o e => Heap.get?_push_of_some _ e, turn_tuple a _, ⟨_, Heap.get?_push_size _ rfl, rfl, rfl⟩, fun b hb => ?_, q⟩
    have e : b = s1.heap.objs.size := by simpa using hb
    subst e
    exact I1.fpOk (Nat.le_refl _) (I1.hok.fresh (Nat.le_refl _))
  · obtain ⟨hs, hgd, hx, es, ep, vs, hdt, hsz, kv, hm⟩ := I1.frzK hd
    refine iter_keys hs hgd hx hdt (pi_one (tk := s1.toks) I1 _ (turn_keys _ hdt) ⟨_, Heap.get?_push_size _ rfl, rfl, ?_⟩ q)
    rw [hsz] <;> rfl
  · obtain ⟨hs, hgd, hx, es, ep, hdt, hsz, ent⟩ := I1.frzT hd
    refine iter_keys hs hgd hx hdt (pi_one (tk := s1.toks) I1 _ (turn_keysT _ hdt) ⟨_, Heap.get?_push_size _ rfl, rfl, ?_⟩ q)
    rw [hsz] <;> rfl
variable {g : Gx} {W : WX} {e : Expr} {m : ME}
def seqA (a : ME) : MI := fun sv h => (a sv h).bind fun x h1 => match x with
  | .tup ys => .ok ys h1
  | .lst ys => .ok ys h1
  | .rol ys => .ok ys h1
  | .ktu ys => .ok ys h1
  | .dct ks _ => .ok ks h1
  | .dtt ks _ => .ok ks h1
  | _ => .bad
theorem ri_any (ha : RE X g W e m) : RI X g W tg e (seqA m) := pi_imp (pi_any ha) fun σ H R ⟨w, sv, h, rs, hk, p⟩ => by
  refine seqG' rs hk p fun w1 H1 h1 v y e1 rs1 k1 r1 p1 => ?_
  split at p1
  · obtain ⟨a, ys, rfl, r2, st⟩ := RV.tup_st r1
    exact ⟨a, rfl, .inr (.inl ⟨⟨ys, st w1 H1 (Sees.refl _ _)⟩, Post.here p1 k1 (itt_ok st r2)⟩)⟩
  · obtain ⟨a, ys, rfl, r2, st⟩ := RV.lst_st r1
    exact ⟨a, rfl, .inl ⟨⟨ys, st w1 H1 (Sees.refl _ _)⟩, Post.here p1 k1 (itl_ok st r2)⟩⟩
  · obtain ⟨a, ys, rfl, r2, st⟩ := RV.rol_st r1
    exact ⟨a, rfl, .inl ⟨⟨ys, st w1 H1 (Sees.refl _ _)⟩, Post.here p1 k1 (itl_ok st r2)⟩⟩
  · obtain ⟨a, ys, rfl, r2, st⟩ := RV.ktu_st r1
    exact ⟨a, rfl, .inr (.inl ⟨⟨ys, st w1 H1 (Sees.refl _ _)⟩, Post.here p1 k1 (itt_ok st r2)⟩)⟩
  · simp only [relV, RV] at r1
    obtain ⟨a, kvs, rfl, ⟨o, q1, q2⟩, rk, _⟩ := r1
    exact ⟨a, rfl, .inr (.inr (.inl ⟨o, kvs, q1, Post.here p1 k1 (itk_ok (fun w2 H2 s => (s.keep a _ q1 q2).1) rk.keys)⟩))⟩
  · simp only [relV, RV] at r1
    obtain ⟨a, kvs, rfl, ⟨o, q1, q2⟩, rk, _⟩ := r1
    exact ⟨a, rfl, .inr (.inr (.inr ⟨o, kvs, q1, Post.here p1 k1 (itkt_ok (fun w2 H2 s => (s.keep a _ q1 q2).1) rk)⟩))⟩
  · exact p1.elim
end
end Mv
set_option Elab.async false
set_option linter.all false
set_option maxRecDepth 100000
/-! Mv, part AJ: walks over d.items(). -/
namespace Mv
open PySem PySem.Spec PyProof.Rows L2

theorem frzT_val {X : Cx} {pins : List (Addr × Obj)} {σ : L2.St} {H : Hp} {s : Shared} {d : Addr} {o : Obj} {kvs : List (List Key × V)} (I : Inv X pins σ H s) (h : H d = some (.frz o (.dT kvs))) :
    (d == sysModules) = false ∧ s.heap.get? d = some o ∧ o.ExactDict ∧ ∃ (es : Array DictEntry) (ep : Nat), o.data = .dict es ep ∧ es.size = kvs.length ∧
      ∀ (i : Nat) (k : List Key) (v : V), kvs[i]? = some (k, v) → ∃ (en : DictEntry) (q : Addr), es[i]? = some en ∧ en.key = .ref q ∧ H q = some (.tup (k.map kV)) ∧ RelV v en.val := by
  obtain ⟨hd, z, hs, xs, pr, o', es, ep, ho, hx, hdt, he, _⟩ := I.hok d _ h
  rw [hd] at ho
  cases ho
  refine ⟨hs, hd, hx, es, ep, hdt, ?_, fun i k v e => ?_⟩
  · have l1 : es.size = xs.length := size_of_entries he
    have l2 : kvs.length = xs.length := Paired.length pr
    omega
  · obtain ⟨b, hb, e1, e2, e3⟩ := paired_get pr e
    have q := entry_at he i
    rw [hb] at q
    exact ⟨_, b.2.1, q, rfl, e2, e3⟩
/-- the pairs of a locked dict with tuple keys, each a new tuple -/
def Itit (d : Addr) (o : Obj) (kvs : List (List Key × V)) : It :=
  ⟨fun i H => H d = some (.frz o (.dT kvs)) ∧ i < kvs.length, fun i H x H' => ∃ T k v q, kvs[i]? = some (k, v) ∧ H q = some (.tup (k.map kV)) ∧ x = .ref T ∧ H T = none ∧ H' = upd H T (.tup [.ref q, v]), fun i H => H d = some (.frz o (.dT kvs)) ∧ kvs.length ≤ i⟩
theorem turn_itemsT {P : Program} {w : World} {K : PySem.W.Frag} {d : Addr} {o : Obj} {es : Array DictEntry} {ep : Nat} {kvs : List (List Key × V)} {elts : List Expr} {kk : Nat} {tpos : Pos} (it : Addr) (hod : o.data = .dict es ep) :
    Turn P w K (.Tuple elts kk tpos) (Itit d o kvs) [it] it (fun i h => ∃ ok ov, IsItemIter h it d i kvs.length ep ok ov) where
  mem := by simp
  obj := fun i h st b hb => by
    have e : b = it := by simpa using hb
    subst e
    obtain ⟨ok, ov, e⟩ := st
    exact ⟨_, e, fun v z => nomatch z⟩
  keep := fun i h h' st k => let ⟨ok, ov, e⟩ := st; ⟨ok, ov, k it (by simp) _ e⟩
  item := by
    intro X hP hw hK hc i pins s σ H E I hf st hg
    subst hP hw hK
    obtain ⟨hd, hi⟩ := hg
    obtain ⟨hs, hgd, hx, es', ep', hdt, hsz, ent⟩ := frzT_val I hd
    obtain ⟨rfl, rfl⟩ := dict_ep hod hdt
    obtain ⟨⟨k, v⟩, hkv⟩ : ∃ p, kvs[i]? = some p := ⟨kvs[i], List.getElem?_eq_getElem hi⟩
    obtain ⟨en, qk, hen, hkey, hq, rv⟩ := ent i k v hkv
    obtain ⟨ok, ov, he⟩ := st
    rw [← hsz] at he
    have hlt : it < s.heap.objs.size := Heap.lt_size he
    have hi2 : i < es'.size := by omega
    have eget : es'[i] = en := by
      rw [Array.getElem?_eq_getElem hi2] at hen
      exact Option.some.inj hen
    refine DT.nextI he ⟨o, hgd, hx, hdt⟩ hi2 fun h' ho hT hz hk => ?_
    rw [eget] at ho hT
    refine ⟨_, rfl, wpAny_letOwnedTupleGo_items (s := { s with heap := h' }) ho fun h'' he' sb => ?_⟩
    have hT2 : h''.get? s.heap.objs.size = some { cls := .type "tuple", data := .seq #[en.key, en.val] } := (sb.2 _ (Nat.ne_of_gt hlt)).trans hT
    rw [hkey] at hT2
    have new : ObjOk X.prog X.w (upd H s.heap.objs.size (.tup [.ref qk, v])) h'' s.heap.objs.size (.tup [.ref qk, v]) :=
      ⟨by show 2 ≤ sizeLine; decide, [.ref qk, en.val], .cons rfl (.cons rv .nil), ⟨_, hT2, rfl, _, rfl⟩⟩
    have I1 : Inv X pins σ (upd H s.heap.objs.size (.tup [.ref qk, v])) { s with heap := h'' } :=
      I.turnedNew (t' := s.toks) (ch := [it]) (fun b ob hb e => (sb.2 b (by simpa using hb)).trans (hk b ob (by simpa using hb) e)) hf (Nat.le_refl _) new
    refine ⟨.ref s.heap.objs.size, _, I1, rfl, ⟨_, k, v, qk, hkv, hq, rfl, I.hok.fresh (Nat.le_refl _), rfl⟩, ⟨en.key, en.val, ?_⟩, fun b hb => ?_⟩
    · rw [← hsz]; exact he'
    · have e : b = it := by simpa using hb
      rw [e, upd_ne (Nat.ne_of_lt hlt)]
      exact (hf it (by simp)).1
  done := by
    intro X hP hw hK hc i pins s σ H E I hf st hg
    subst hP hw hK
    obtain ⟨hd, hi⟩ := hg
    obtain ⟨f0, f1, f2, f3, f4, f5⟩ := hf it (by simp)
    obtain ⟨hs, hgd, hx, es', ep', hdt, hsz, ent⟩ := frzT_val I hd
    obtain ⟨rfl, rfl⟩ := dict_ep hod hdt
    obtain ⟨ok, ov, he⟩ := st
    rw [← hsz] at he
    exact DT.endI (I.ok.hd hc) he ⟨o, hgd, hx, hdt⟩ (by omega) fun h' eb => ⟨rfl, I.turned (t' := s.toks) (fun b ob hb e => eb b ob hb e) f0 f1 f3 f4 f5⟩
  self := fun A i s Q E st h => let ⟨_, _, e⟩ := st; PySem.W.kcp_self e h
section
variable {X : Cx} {tg e : Expr} {td : TE} {apos cpos : Pos}
theorem pi_itemsA {elts : List Expr} {kk : Nat} {tpos : Pos} (he : PE X e td) (hbase : attributeBase e "items" X.env (eval e X.env) = eval e X.env) (hline : (apos.endLine == cpos.line) = true) :
    PI X (.Tuple elts kk tpos) (.Call (.Attribute e "items" apos) [] [] cpos) (fun σ H R => td σ H fun x H1 => ∃ d o, x = .ref d ∧ ((∃ kvs, H1 d = some (.frz o (.dK kvs)) ∧ R (Iti d o kvs) H1) ∨ ∃ kvs, H1 d = some (.frz o (.dT kvs)) ∧ R (Itit d o kvs) H1)) := by
  refine ⟨fun pins s σ H R I h => ?_⟩
  refine wpAny_Call_method (T := "dict") (id := "dict.items") hbase rfl hline PySem.F.plainAttrs_dict PySem.F.slot_dict_items PySem.F.type_dict_items (thn (he.run pins s σ H _ I h) fun u s1 ⟨x, H1, I1, rx, d, o, ex, q⟩ => ?_)
  subst ex
  obtain rfl : u = Value.ref d := rx
  rcases q with ⟨kvs, hd, q⟩ | ⟨kvs, hd, q⟩
  · obtain ⟨hs, hgd, hx, es, ep, vs, hdt, hsz, kv, hm⟩ := I1.frzK hd
    have hl : kvs.length = vs.length := Paired.length kv
    refine ⟨hm.dictOf.typeIs, hm.dictOf.mapOf.noDict, ?_⟩
    have I2 : Inv X pins σ H1 { s1 with heap := s1.heap.push { cls := .type "dict_items", data := .fields #[.ref d] } } := I1.kept (t' := s1.toks) fun b o q => Heap.get?_push_of_some _ q
    have fin : wpAny (model X.prog X.w) X.A (pyIter (.ref s1.heap.objs.size)) (PIE X pins σ (.Tuple elts kk tpos) R) X.xe { s1 with heap := s1.heap.push { cls := .type "dict_items", data := .fields #[.ref d] } } := by
      refine wpAny_pyIter_items (d := d) (knd := mixKind X.prog X.w) ⟨_, Heap.get?_push_size _ rfl, rfl, rfl⟩ (hm.push _) (pi_one (tk := s1.toks) I2 _ (turn_items _ hdt) ⟨.none, .none, ?_⟩ q)
      rw [hl]
      exact Heap.get?_push_size _ rfl
    show wpAny _ _ (callWith cpos (.builtin "dict.items") [.ref d] [] []) _ X.xe s1
    exact method_meetsIn PySem.F.slot_dict_items PySem.F.entry_dict_items rfl (PySem.evalArgs_none ⟨rfl, hm.dictOf.typeIs, PySem.F.args_dict_items_1 _, _, meets_dict_items (mixKind X.prog X.w) d hs, ⟨vs, hm.dictOf⟩, fin⟩)
  · obtain ⟨hs, hgd, hx, es, ep, hdt, hsz, ent⟩ := frzT_val I1 hd
    have hT : s1.TypeIs (.ref d) "dict" := ⟨o, hgd, hx.1⟩
    refine ⟨hT, fun b eb => by cases eb; exact ⟨o, hgd, hx.2.1⟩, ?_⟩
    have I2 : Inv X pins σ H1 { s1 with heap := s1.heap.push { cls := .type "dict_items", data := .fields #[.ref d] } } := I1.kept (t' := s1.toks) fun b o q => Heap.get?_push_of_some _ q
    have fin : wpAny (model X.prog X.w) X.A (pyIter (.ref s1.heap.objs.size)) (PIE X pins σ (.Tuple elts kk tpos) R) X.xe { s1 with heap := s1.heap.push { cls := .type "dict_items", data := .fields #[.ref d] } } := by
      refine DT.iterI (d := d) (es := es) (ep := ep) ⟨_, Heap.get?_push_size _ rfl, rfl, rfl⟩ ⟨o, Heap.get?_push_of_some _ hgd, hx, hdt⟩ (pi_one (tk := s1.toks) I2 _ (turn_itemsT _ hdt) ⟨.none, .none, ?_⟩ q)
      rw [← hsz]
      exact Heap.get?_push_size _ rfl
    show wpAny _ _ (callWith cpos (.builtin "dict.items") [.ref d] [] []) _ X.xe s1
    exact method_meetsIn PySem.F.slot_dict_items PySem.F.entry_dict_items rfl (PySem.evalArgs_none ⟨rfl, hT, PySem.F.args_dict_items_1 _, _, DT.meetsItems (es := es) (ep := ep) hs, ⟨o, hgd, hx, hdt⟩, fin⟩)
end
section
variable {K : PySem.W.Frag} {g : Gx} {w : Wd} {H : Hp}
def pairV (ks vs : List VV) : List VV := List.zipWith (fun k v => .tup [k, v]) ks vs
theorem pair_step {w1 : Wd} {h1 : VH} {H1 H2 : Hp} {x y : VV} {a b : V} {T : Addr} (k : Hk K g.adr w1 h1 H1) (hT : H1 T = none) (e : H2 = upd H1 T (.tup [a, b])) (r1 : RV K g.adr w1 H1 x a) (r2 : RV K g.adr w1 H1 y b) :
    Ext w1 H1 w1 H2 ∧ Hk K g.adr w1 h1 H2 ∧ RV K g.adr w1 H2 (.tup [x, y]) (.ref T) := zip_step k hT e r1 r2
theorem pairV_get : ∀ {ks vs : List VV} {i : Nat} {v : VV}, (pairV ks vs)[i]? = some v → ∃ x y, ks[i]? = some x ∧ vs[i]? = some y ∧ v = .tup [x, y]
  | [], _, i, v, h => by simp [pairV] at h
  | _ :: _, [], i, v, h => by simp [pairV] at h
  | k :: ks, x :: xs, 0, v, h => by
    simp only [pairV, List.zipWith_cons_cons, List.getElem?_cons_zero, Option.some.injEq] at h
    exact ⟨k, x, rfl, rfl, h.symm⟩
  | k :: ks, x :: xs, i + 1, v, h => by
    simp only [pairV, List.zipWith_cons_cons, List.getElem?_cons_succ] at h
    exact pairV_get (ks := ks) (vs := xs) h
theorem iti_ok {a : Addr} {o : Obj} {kvs : List (Key × V)} {ks vs : List VV} (st : ∀ w1 H1, Sees w H w1 H1 → H1 a = some (.frz o (.dK kvs))) (rk : RVs K g.adr w H ks (kvs.map fun p => kV p.1)) (rv : RVs K g.adr w H vs (kvs.map fun p => p.2)) : ItOk K g w H (pairV ks vs) (Iti a o kvs) where
  step := fun w1 h1 H1 i v s k q => by
    obtain ⟨x, y, q1, q2, rfl⟩ := pairV_get q
    obtain ⟨z1, e1, r1⟩ := rk.get i x q1
    obtain ⟨z2, e2, r2⟩ := rv.get i y q2
    rw [List.getElem?_map] at e1 e2
    cases eq : kvs[i]? with
    | none => rw [eq] at e1; cases e1
    | some p =>
      rw [eq] at e1 e2
      have h1' := Option.some.inj e1
      have h2' := Option.some.inj e2
      refine ⟨⟨st w1 H1 s, (List.getElem?_eq_some_iff.mp eq).1⟩, fun x2 H2 hy => ?_⟩
      obtain ⟨T, k2, v2, e3, e4, e5, e6⟩ := hy
      rw [eq] at e3
      cases e3
      subst e4
      exact pair_step k e5 e6 (by have := RV.mono s _ _ r1; rw [← h1'] at this; exact this) (by have := RV.mono s _ _ r2; rw [← h2'] at this; exact this)
  stop := fun w1 H1 s => ⟨st w1 H1 s, by
    have a1 := rk.length
    have a2 := rv.length
    rw [List.length_map] at a1 a2
    unfold pairV
    rw [List.length_zipWith, a1, a2, Nat.min_self]
    exact Nat.le_refl _⟩
theorem itit_ok {a : Addr} {o : Obj} {kvs : List (List Key × V)} {ks vs : List VV} (st : ∀ w1 H1, Sees w H w1 H1 → H1 a = some (.frz o (.dT kvs))) (rk : ks = keysT kvs) (rv : RVs K g.adr w H vs (kvs.map fun p => p.2)) : ItOk K g w H (pairV ks vs) (Itit a o kvs) where
  step := fun w1 h1 H1 i v s k q => by
    obtain ⟨x, y, q1, q2, rfl⟩ := pairV_get q
    subst rk
    unfold keysT at q1
    obtain ⟨z2, e2, r2⟩ := rv.get i y q2
    rw [List.getElem?_map] at q1 e2
    cases eq : kvs[i]? with
    | none => rw [eq] at q1; cases q1
    | some p =>
      rw [eq] at q1 e2
      have h1' := Option.some.inj q1
      have h2' := Option.some.inj e2
      refine ⟨⟨st w1 H1 s, (List.getElem?_eq_some_iff.mp eq).1⟩, fun x2 H2 hy => ?_⟩
      obtain ⟨T, k2, v2, b, e3, hb, e4, e5, e6⟩ := hy
      rw [eq] at e3
      cases e3
      subst e4
      refine pair_step k e5 e6 ?_ (by have := RV.mono s _ _ r2; rw [← h2'] at this; exact this)
      rw [← h1']
      simp only [RV]
      exact ⟨b, _, rfl, ⟨hb, k.spc b _ hb⟩, RVs.of_kVs _⟩
  stop := fun w1 H1 s => ⟨st w1 H1 s, by
    have a2 := rv.length
    rw [List.length_map] at a2
    unfold pairV
    rw [List.length_zipWith, rk]
    unfold keysT
    rw [List.length_map, a2, Nat.min_self]
    exact Nat.le_refl _⟩
end
section
variable {X : Cx} {g : Gx} {W : WX} {e : Expr} {m : ME} {apos cpos : Pos}
def itemsI (a : ME) : MI := fun sv h => (a sv h).bind fun x h1 => match x with
  | .dct ks vs => .ok (pairV ks vs) h1
  | .dtt ks vs => .ok (pairV ks vs) h1
  | _ => .bad
theorem ri_items {elts : List Expr} {kk : Nat} {tpos : Pos} (ha : RE X g W e m) (hbase : attributeBase e "items" X.env (eval e X.env) = eval e X.env := by rfl) (hline : (apos.endLine == cpos.line) = true := by rfl) : RI X g W (.Tuple elts kk tpos) (.Call (.Attribute e "items" apos) [] [] cpos) (itemsI m) :=
  pi_imp (pi_itemsA ha hbase hline) fun σ H R ⟨w, sv, h, rs, hk, p⟩ => by
    refine seqG' rs hk p fun w1 H1 h1 v y e1 rs1 k1 r1 p1 => ?_
    split at p1
    · simp only [relV, RV] at r1
      obtain ⟨a, kvs, rfl, ⟨o, q1, q2⟩, rk, rv⟩ := r1
      exact ⟨a, o, rfl, .inl ⟨kvs, q1, Post.here p1 k1 (iti_ok (fun w2 H2 s => (s.keep a _ q1 q2).1) rk rv)⟩⟩
    · simp only [relV, RV] at r1
      obtain ⟨a, kvs, rfl, ⟨o, q1, q2⟩, rk, rv⟩ := r1
      exact ⟨a, o, rfl, .inr ⟨kvs, q1, Post.here p1 k1 (itit_ok (fun w2 H2 s => (s.keep a _ q1 q2).1) rk rv)⟩⟩
    · exact p1.elim
end
end Mv
set_option Elab.async false
set_option linter.all false
set_option maxRecDepth 100000
/-! Mv, part AK: sorted of a tuple of tuples, of a dict with tuple keys. -/
namespace Mv
open PySem PySem.Spec PyProof.Rows L2
section
variable {X : Cx}
/-- sorted(u), whatever u is, once its items have been collected -/
theorem sorted_col {pins : List (Addr × Obj)} {σ : L2.St} {H : Hp} {s : Shared} {u : Value} {its : List Value} {xs : List V} {ks : List (List Int)} {Q : VK} (hu : X.A.units + 64 < cLine) (I : Inv X pins σ H s) (rv : Vals xs its) (tk : TupK X.K H xs ks) (hz : its.length ≤ sizeLine)
    (hk : (∃ r, ks = [] :: r) ∨ ∀ n ∈ ks, n ≠ [])
    (hcol : ∀ R : List Value → Shared → Prop, (∀ (h' : Heap) (tk : Nat), (∀ b o, s.heap.get? b = some o → h'.get? b = some o) → R its { s with heap := h', toks := tk }) → wpAny (model X.prog X.w) X.A.in1 (collect u) R X.xe s)
    (q : ∀ (ys : List V) (kys : List (List Int)) (p : Addr), ys.length = kys.length → (∀ z ∈ ys.zip kys, z ∈ xs.zip ks) → kys.Perm ks → SrtK kys → H p = none → Q (.ref p) (upd H p (.lst ys))) :
    wpAny (model X.prog X.w) X.A (call (.builtin "sorted") [u]) (EP X pins σ Q) X.xe s := by
  refine Calls.call_function_entry PyProof.Rows.kind_sorted PyProof.Rows.plain_sorted PyProof.Rows.entry_sorted (PyProof.Rows.args_sorted1 _) ?_
  unfold Builtin.«sorted»
  refine wpAny_bind (m := checkCount "sorted" 1 1 _) (wpAny_pure ?_)
  refine wpAny_bind (hcol _ fun h' tk' kp => ?_)
  have I1 : Inv X pins σ H { s with heap := h', toks := tk' } := I.kept kp
  obtain ⟨h1, h2, h3, h4⟩ := tupK_vals I1 rv tk
  refine wpAny_bind (wpAny_newList ?_ hz)
  have hoL : (h'.push (seqObj "list" its.toArray 0)).get? h'.objs.size = some (seqObj "list" its.toArray 0) := Heap.get?_push_size _ rfl
  have keep : ∀ b o, h'.get? b = some o → b ≠ h'.objs.size ∧ (h'.push (seqObj "list" its.toArray 0)).get? b = some o := fun b o e => ⟨Nat.ne_of_lt (Heap.lt_size e), Heap.get?_push_of_some _ e⟩
  show wpAny _ _ _ _ _ { s with heap := h'.push (seqObj "list" its.toArray 0), toks := tk' }
  refine wpAny_bind (wpAny_holding (wpAny_call_entry PyProof.Rows.slot_list_sort ⟨_, hoL, rfl⟩ PyProof.Rows.entry_list_sort
    (SrtO.list_sort_ord (s := { s with heap := h'.push (seqObj "list" its.toArray 0), toks := tk' }) (NtL.swo_lexL (TS.intsOf h')) hoL hz (fun l2 => ?_) fun out hs hb => ⟨_, rfl, ?_⟩) (PyProof.Rows.args_list_sort _)))
  · refine tups_sortable (A := X.A.in1.in1) (s := { s with heap := h'.push (seqObj "list" its.toArray 0), toks := tk' }) (by omega) (show X.A.units + 1 + 1 < cLine by omega) (fun v hv => (h1 v hv).keeps fun c o e _ => (keep c o e).2) ?_ fun o e => ?_
    · rcases hk with ⟨rest, hk⟩ | hk
      · left
        cases its with
        | nil => simp at l2
        | cons v0 rest2 =>
          rw [hk, List.map_cons] at h2
          exact ⟨v0, rest2, rfl, (List.cons.inj h2).1⟩
      · right
        intro v hv
        exact hk _ (by rw [← h2]; exact List.mem_map.mpr ⟨v, hv, rfl⟩)
    · rw [hoL] at e
      cases e
      intro c
      exact absurd (Value.type.inj c) (by decide)
  · have hm : ∀ v ∈ out, v ∈ its := fun v hv => hb.perm.mem_iff.mp hv
    have h5 : ∀ v ∈ out, ∃ t, v = Value.ref t := fun v hv => h4 v (hm v hv)
    obtain ⟨n, hn⟩ := PyProof.Rows.sortedHeap_at (vs := its) (out := out.toArray) hoL
    refine wpAny_pure ⟨_, rfl, .ref h'.objs.size, upd H h'.objs.size (.lst (out.map backV)), I1.laid (t' := tk') (fun b o e => ?_) (Nat.le_refl _) ⟨?_, out, n, vals_back h5, hn⟩, rfl, q (out.map backV) (out.map (TS.intsOf h')) _ (by simp) ?_ ?_ ?_ (I1.hok.fresh (Nat.le_refl _))⟩
    · have hb : b < h'.objs.size := Heap.lt_size e
      rw [PyProof.Rows.sortedHeap_old (Nat.ne_of_lt hb) (by rw [size_push']; exact Nat.lt_succ_of_lt hb)]
      exact Heap.get?_push_of_some _ e
    · rw [List.length_map, hb.perm.length_eq]
      exact hz
    · intro z hz
      rw [List.zip_map'] at hz
      obtain ⟨v, hv, e⟩ := List.mem_map.mp hz
      rw [h3, ← h2, List.zip_map']
      exact List.mem_map.mpr ⟨v, hm v hv, e⟩
    · rw [← h2]
      exact hb.perm.map _
    · exact List.pairwise_map.mpr hs
/-- of a tuple -/
def rSortedTT (K : PySem.W.Frag) : List V → Hp → VK → Prop := fun vs H Q => ∃ (a : Addr) (xs : List V) (ks : List (List Int)), vs = [.ref a] ∧ SqT K H a xs ∧ TupK K H xs ks ∧ ((∃ r, ks = [] :: r) ∨ ∀ n ∈ ks, n ≠ []) ∧
  ∀ (ys : List V) (kys : List (List Int)) (p : Addr), ys.length = kys.length → (∀ z ∈ ys.zip kys, z ∈ xs.zip ks) → kys.Perm ks → SrtK kys → H p = none → Q (.ref p) (upd H p (.lst ys))
theorem cr_sortedTT (hu : X.A.units + 64 < cLine) : CallR X (.builtin "sorted") (rSortedTT X.K) := by
  intro pins s σ H vs us Q I r h
  obtain ⟨a, xs, ks, rfl, hs, tk, hk, q⟩ := h
  obtain ⟨its, rv, ht, hz⟩ := I.tuple hs
  rw [Vals.ref1 r]
  refine sorted_col hu I rv tk (by rw [← rv.length]; exact hz) hk (fun R hR => ?_) q
  obtain ⟨o, ho, hc, n, hd⟩ := id ht
  refine wpAny_collect_seq a (.inr rfl) ho hc hd (fun h' hk => ?_) (by rw [List.size_toArray, ← rv.length]; exact hz)
  have e : its.toArray.toList = its := by simp
  rw [e]
  exact hR h' s.toks hk
/-- of a dict with tuple keys -/
def rSortedDT (K : PySem.W.Frag) : List V → Hp → VK → Prop := fun vs H Q => ∃ (a : Addr) (kvs : List (List Key × V)) (ks : List (List Int)), vs = [.ref a] ∧ Rd H a (.dT kvs) ∧ (kvs.map fun p => p.1) = (ks.map fun n => n.map Sum.inl) ∧ ((∃ r, ks = [] :: r) ∨ ∀ n ∈ ks, n ≠ []) ∧
  ∀ (ys : List V) (kys : List (List Int)) (p : Addr), ys.length = kys.length → (∀ z ∈ ys.zip kys, ∃ t, z.1 = .ref t ∧ H t = some (.tup (z.2.map V.int))) → kys.Perm ks → SrtK kys → H p = none → Q (.ref p) (upd H p (.lst ys))
theorem kt_tups {K : PySem.W.Frag} {H : Hp} : ∀ {kvs : List (List Key × V)} {xs : List (List Key × Addr × Value)} {ks : List (List Int)}, KT H kvs xs → (kvs.map fun p => p.1) = (ks.map fun n => n.map Sum.inl) →
    TupK K H ((xs.map fun x => x.2.1).map V.ref) ks ∧ ∀ z ∈ ((xs.map fun x => x.2.1).map V.ref).zip ks, ∃ t, z.1 = .ref t ∧ H t = some (.tup (z.2.map V.int))
  | [], _, ks, .nil, e => by
    cases ks with
    | nil => exact ⟨trivial, fun z hz => by simp at hz⟩
    | cons _ _ => simp at e
  | p :: kvs, _, ks, .cons (b := x) r t, e => by
    cases ks with
    | nil => simp at e
    | cons n ns =>
      rw [List.map_cons, List.map_cons, List.cons.injEq] at e
      obtain ⟨h1, h2⟩ := kt_tups (K := K) t e.2
      obtain ⟨r1, r2, _⟩ := r
      have e3 : p.1.map kV = n.map V.int := by
        rw [e.1, List.map_map]
        rfl
      rw [e3] at r2
      refine ⟨⟨⟨_, rfl, .inl (.inl r2)⟩, h1⟩, fun z hz => ?_⟩
      rw [List.map_cons, List.map_cons, List.zip_cons_cons] at hz
      rcases List.mem_cons.mp hz with e4 | hz
      · rw [e4]
        exact ⟨_, rfl, r2⟩
      · exact h2 z hz
theorem cr_sortedDT (hc : X.calm = true) (hu : X.A.units + 64 < cLine) : CallR X (.builtin "sorted") (rSortedDT X.K) := by
  intro pins s σ H vs us Q I r h
  obtain ⟨a, kvs, ks, rfl, hd, hks, hk, q⟩ := h
  rw [Vals.ref1 r]
  obtain ⟨z, hs, xs, pr, o, es, ep, ho, hx, hdt, he, hn⟩ := (show ObjOk X.prog X.w H s.heap a (.dT kvs) from hd.ok I.hok)
  have l1 : es.size = xs.length := size_of_entries he
  have l2 : kvs.length = xs.length := Paired.length pr
  obtain ⟨t1, t2⟩ := kt_tups (K := X.K) pr hks
  refine sorted_col (its := (xs.map fun x => x.2.1).map Value.ref) hu I (vals_refs _) t1 (by rw [List.length_map, List.length_map]; omega) hk (fun R hR => ?_) fun ys kys p hl hz hp hs2 hq => q ys kys p hl (fun z hzz => t2 z (hz z hzz)) hp hs2 hq
  refine PySem.W.kdu_collect (A := X.A.in1) (kdl_raw hs hx hdt) (I.ok.hd hc) ho (by omega) fun h' tk acc kp it => ?_
  have ea : acc.toList = (xs.map fun x => x.2.1).map Value.ref := by
    rw [List.map_map]
    have hl : acc.toList.length = xs.length := by rw [Array.length_toList, it.1]; exact l1
    apply List.ext_getElem?
    intro j
    rw [List.getElem?_map]
    cases hj : acc.toList[j]? with
    | none =>
      have h1 := List.getElem?_eq_none_iff.mp hj
      rw [List.getElem?_eq_none (by omega)]
      all_goals rfl
    | some v =>
      obtain ⟨en, hen, hv⟩ := it.2 j v (by rw [← Array.getElem?_toList]; exact hj)
      have qe := entry_at he j
      rw [hen] at qe
      cases hb : xs[j]? with
      | none =>
        rw [hb] at qe
        exact nomatch (show some en = none from qe)
      | some b =>
        rw [hb] at qe
        have e2 : en = entryOfKey (tupleKind (mixKind X.prog X.w)) b := Option.some.inj qe
        rw [hv, e2]
        all_goals rfl
  rw [ea]
  exact hR h' tk kp
end

/-! ### the mirror -/
def sortedAF : VF := fun xs h => match xs with
  | [.tup ys] => (match tupKs ys with
    | some ks => if okK ks then .ok (.lst ((sortK ks).map tupV)) h else .bad
    | none => .bad)
  | [.ktu ys] => (match tupKs ys with
    | some ks => if okK ks then .ok (.lst ((sortK ks).map tupV)) h else .bad
    | none => .bad)
  | [x] => (match dictT h x with
    | some (dk, _) => (match tupKs dk with
      | some ks => if okK ks then .ok (.lst ((sortK ks).map tupV)) h else .bad
      | none => .bad)
    | none => (match dictK h x with
      | some (dk, _) => (match allIt dk with | some ns => if ns.length < 64 then .ok (.lst ((sortI ns).map VV.int)) h else .bad | none => .bad)
      | none => sortedLF [x] h))
  | _ => .bad
def rSortedA (K : PySem.W.Frag) : List V → Hp → VK → Prop := fun xs H Q => rSortedL K xs H Q ∨ rSortedTT K xs H Q ∨ rSortedDT K xs H Q ∨ rSortedDI xs H Q
theorem cr_sortedA {X : Cx} (hc : X.calm = true) (hu : X.A.units + 64 < cLine) : CallR X (.builtin "sorted") (rSortedA X.K) := CallR.or (cr_sortedL hu) (CallR.or (cr_sortedTT hu) (CallR.or (cr_sortedDT hc hu) (call_sortedDI hc)))
section
variable {K : PySem.W.Frag} {g : Gx} {w : Wd} {H : Hp} {h : VH} {G : Nat → Addr}
theorem keysT_ints : ∀ {kvs : List (List Key × V)} {ks : List (List Int)}, tupKs (keysT kvs) = some ks → (kvs.map fun p => p.1) = (ks.map fun n => n.map Sum.inl)
  | [], ks, e => by
    simp only [keysT, List.map_nil, tupKs, Option.some.injEq] at e
    subst e
    rfl
  | p :: kvs, ks, e => by
    have e0 : keysT (p :: kvs) = .tup (p.1.map vvK) :: keysT kvs := rfl
    rw [e0] at e
    simp only [tupKs, Option.bind_eq_some_iff, Option.map_eq_some_iff] at e
    obtain ⟨n, e1, ns, e2, rfl⟩ := e
    have ih := keysT_ints e2
    rw [List.map_cons, List.map_cons, ih]
    congr 1
    have e3 := allIt_ok e1
    have key : ∀ (l : List Key) (m : List Int), l.map vvK = m.map VV.int → l = m.map Sum.inl := fun l => by
      induction l with
      | nil => intro m z; cases m with
        | nil => rfl
        | cons _ _ => simp at z
      | cons k l ih => intro m z; cases m with
        | nil => simp at z
        | cons i m =>
          simp only [List.map_cons, List.cons.injEq] at z ⊢
          refine ⟨?_, ih m z.2⟩
          cases k with
          | inl j => have := z.1; simp only [vvK, VV.int.injEq] at this; rw [this]
          | inr j => simp [vvK] at z
    exact key _ _ e3
theorem rvs_keysN (k : Hk K g.adr w h H) : ∀ {ys : List V} {kys : List (List Int)}, ys.length = kys.length → (∀ z ∈ ys.zip kys, ∃ t, z.1 = .ref t ∧ H t = some (.tup (z.2.map V.int))) → RVs K g.adr w H (kys.map tupV) ys
  | [], [], _, _ => by simp [RVs]
  | [], _ :: _, e, _ => by simp at e
  | _ :: _, [], e, _ => by simp at e
  | y :: ys, n :: kys, e, q => by
    simp only [List.map_cons, RVs]
    refine ⟨y, ys, rfl, ?_, rvs_keysN k (by simpa using e) fun z hz => q z (by rw [List.zip_cons_cons]; exact List.mem_cons_of_mem _ hz)⟩
    obtain ⟨t, e1, e2⟩ := q (y, n) (by simp)
    dsimp only at e1 e2
    subst e1
    unfold tupV
    simp only [RV]
    exact ⟨t, _, rfl, ⟨e2, k.spc t _ e2⟩, RVs.of_ints n⟩
theorem sortedAS : CallS K g (rSortedA K) sortedAF := by
  intro w h H σ W Q xs vs hk r p
  unfold sortedAF at p
  split at p
  · rename_i ys
    split at p
    · rename_i ks e
      split at p
      · rename_i ok
        obtain ⟨y, rfl, r1⟩ := RVs.one r
        obtain ⟨a, us, rfl, ha, r2⟩ := RV.tup_get r1
        obtain ⟨t1, t2⟩ := tupKs_rel e r2
        refine .inr (.inl ⟨a, us, ks, rfl, ha, t1, okK_ok ok, fun zs kzs q hl hz hp hs hq => ?_⟩)
        have e2 : kzs = sortK ks := srtK_unique (hp.trans (sortK_perm ks).symm) hs (sortK_sorted ks)
        subst e2
        exact post_newl p hk (rvs_keys hl fun z hzz => t2 z (hz z hzz)) hq
      · exact p.elim
    · exact p.elim
  · rename_i ys
    split at p
    · rename_i ks e
      split at p
      · rename_i ok
        obtain ⟨y, rfl, r1⟩ := RVs.one r
        obtain ⟨a, us, rfl, ha, r2⟩ := RV.ktu_get r1
        obtain ⟨t1, t2⟩ := tupKs_rel e r2
        refine .inr (.inl ⟨a, us, ks, rfl, ha, t1, okK_ok ok, fun zs kzs q hl hz hp hs hq => ?_⟩)
        have e2 : kzs = sortK ks := srtK_unique (hp.trans (sortK_perm ks).symm) hs (sortK_sorted ks)
        subst e2
        exact post_newl p hk (rvs_keys hl fun z hzz => t2 z (hz z hzz)) hq
      · exact p.elim
    · exact p.elim
  · split at p
    · rename_i dk dv e0
      split at p
      · rename_i ks e
        split at p
        · rename_i ok
          obtain ⟨y, rfl, r1⟩ := RVs.one r
          obtain ⟨a, kvs, rfl, h1, rfl, h3⟩ := dictT_ok hk e0 r1
          refine .inr (.inr (.inl ⟨a, kvs, ks, rfl, h1, keysT_ints e, okK_ok ok, fun zs kzs q hl hz hp hs hq => ?_⟩))
          have e2 : kzs = sortK ks := srtK_unique (hp.trans (sortK_perm ks).symm) hs (sortK_sorted ks)
          subst e2
          exact post_newl p hk (rvs_keysN hk hl hz) hq
        · exact p.elim
      · exact p.elim
    · split at p
      · rename_i dk dv e0
        split at p
        · rename_i ns e
          split at p
          · rename_i hz
            obtain ⟨y, rfl, r1⟩ := RVs.one r
            obtain ⟨a, kvs, rfl, h1, rk, h3⟩ := dictK_ok hk e0 r1
            have e2 := rk.keys
            rw [allIt_ok e] at e2
            refine .inr (.inr (.inr ⟨a, kvs, ns, rfl, h1, keys_inl e2, hz, fun ys q hp hs hq => ?_⟩))
            have e3 : ys = sortI ns := sorted_unique (hp.trans (sortI_perm ns).symm) hs (sortI_sorted ns)
            rw [e3]
            exact post_newl p hk (RVs.of_ints _) hq
          · exact p.elim
        · exact p.elim
      · exact .inl (sortedLS w h H σ W Q _ vs hk r p)
  · exact p.elim
end
end Mv
set_option Elab.async false
set_option linter.all false
set_option maxRecDepth 100000
/-! Mv, part AL: list comprehensions of two clauses. -/
namespace Mv
open PySem PySem.Spec PyProof.Rows L2
def lc1Go (sv : Sv) (mg : MG) (t : MT) (e : ME) : List VV → List VV → VH → Out (List VV)
  | [], acc, h => .ok acc h
  | v :: r, acc, h => match mg v with
    | none => .bad
    | some asg => (t (setsV asg sv) h).nox.bind fun b h1 => if b then (e (setsV asg sv) h1).nox.bind fun y h2 => lc1Go sv mg t e r (acc ++ [y]) h2 else lc1Go sv mg t e r acc h1
def lc2Go (sv : Sv) (mg : MG) (t : MT) (it1 : MI) (mg1 : MG) (vs1 : List Nat) (t1 : MT) (e : ME) : List VV → List VV → VH → Out (List VV)
  | [], acc, h => .ok acc h
  | v :: r, acc, h => match mg v with
    | none => .bad
    | some asg => (t (setsV asg sv) h).nox.bind fun b h1 => if b then (it1 (setsV asg sv) h1).nox.bind fun items h2 => if fits (acc.length + items.length) then (lc1Go (wipeS (setsV asg sv) vs1) mg1 t1 e items acc h2).bind fun acc2 h3 => lc2Go sv mg t it1 mg1 vs1 t1 e r acc2 h3 else .bad
      else lc2Go sv mg t it1 mg1 vs1 t1 e r acc h1
def lc2M (it : MI) (mg : MG) (t : MT) (it1 : MI) (mg1 : MG) (t1 : MT) (vs vs1 : List Nat) (e : ME) : ME := fun sv h => (it sv h).bind fun items h1 => (lc2Go (wipeS sv vs) mg t it1 mg1 vs1 t1 e items [] h1).bind fun ys h2 => .ok (.lst ys) h2
section
variable {X : Cx} {g : Gx} {W : WX} {mg mg1 : MG} {is is1 : List Nat} {mi mi1 : MI} {mt mt1 : MT} {me : ME}
/-- a list at D under way -/
structure LAt (K : PySem.W.Frag) (g : Gx) (w1 : Wd) (H1 : Hp) (D : Addr) (w : Wd) (H : Hp) (h : VH) (acc : List VV) (n : Nat) : Prop where
  gd : Gd w1 H1 D w H
  hk : Hk K g.adr w h H
  at_ : ∃ ys : List V, H D = some (.lst ys) ∧ RVs K g.adr w H acc ys ∧ ys.length ≤ n
theorem LAt.ext {K : PySem.W.Frag} {w1 w w' : Wd} {H1 H H' : Hp} {D : Addr} {h h' : VH} {d : List VV} {n : Nat} (a : LAt K g w1 H1 D w H h d n) (e : Ext w H w' H') (k : Hk K g.adr w' h' H') : LAt K g w1 H1 D w' H' h' d n := by
  obtain ⟨ys, h1, h2, h4⟩ := a.at_
  exact ⟨a.gd.ext e, k, ys, (e.prot D (.inl (by rw [a.gd.P]; exact .inr rfl))).trans h1, RVs.mono e.sees _ _ h2, h4⟩
abbrev tIn1 (wi1 : TI) (g1 : TG) (tt1 : TT) (te : TE) (D : Addr) (vs1 : List Nat) (σ2 : L2.St) (H3 : Hp) (Nx : Hp → Prop) : Prop := wi1 σ2 H3 fun J1 H4 => ∃ W1 : Nat → Nat → Hp → Prop, (∃ m, W1 0 m H4) ∧ ∀ j k H, W1 j k H →
      (J1.stop j H ∧ Nx H) ∨ (J1.go j H ∧ ∃ Nx1 : Hp → Prop, (∀ H', Nx1 H' → ∃ k', k' < k ∧ W1 (j + 1) k' H') ∧ ∀ x H', J1.yld j H x H' → g1 x (wipe σ2 vs1) H' fun σ3 H5 => wipe σ3 vs1 = wipe σ2 vs1 ∧ tt1 σ3 H5 fun b H6 =>
        if b = true then te σ3 H6 fun y H7 => ∃ acc, H7 D = some (.lst acc) ∧ acc.length < sizeLine ∧ Nx1 (upd H7 D (.lst (acc ++ [y]))) else Nx1 H6)
theorem inL_imp {w1 : Wd} {H1 : Hp} {D : Addr} (k1 : ∃ h1, Hk X.K g.adr w1 h1 H1) (hD : H1 D = none) {vs1 : List Nat} (hIn : InIs mg1 is1) (hs : ∀ j ∈ is1, j ∈ vs1) {σ σ0 : L2.St} {sv : Sv} {w2 : Wd} {H2 : Hp} {h2 : VH} {d : List VV} {n : Nat} {Q : VK} {k : List VV → VH → Out VV} {N : Hp → Prop}
    (rs : RSl X.K g w2 H2 sv σ) (a : LAt X.K g w1 H1 D w2 H2 h2 d n) (p : Post X.K g (relV X.K g) w1 H1 σ0 Q W ((mi1 sv h2).nox.bind fun items h3 => if fits (d.length + items.length) then (lc1Go (wipeS sv vs1) mg1 mt1 me items d h3).bind k else .bad))
    (fin : ∀ w3 H3 h3 d3, Sees w2 H2 w3 H3 → LAt X.K g w1 H1 D w3 H3 h3 d3 16777216 → Post X.K g (relV X.K g) w1 H1 σ0 Q W (k d3 h3) → N H3) :
    tIn1 (tG X.K g (relI X.K g) mi1 W0) (tGt X.K g mg1) (tG X.K g relB mt1 W0) (tG X.K g (relV X.K g) me W0) D vs1 σ H2 N := by
  obtain ⟨h1, k1⟩ := k1
  refine ⟨w2, sv, h2, rs, a.hk, ?_⟩
  cases ei : mi1 sv h2 with
  | bad => rw [ei] at p; exact p.elim
  | exc x h3 => rw [ei] at p; exact p.elim
  | ok items h3 =>
    rw [ei] at p
    simp only [Out.nox, Out.bind] at p
    intro w3 H3 J e3 k3 rJ
    have a3 := a.ext e3 k3
    have rs3 := rs.mono _ _ e3.sees
    by_cases hf : fits (d.length + items.length) = true
    case neg => rw [if_neg hf] at p; exact p.elim
    rw [if_pos hf] at p
    have hz := fits_le hf
    have hz2 : d.length + items.length ≤ 16777216 := by
      unfold fits at hf
      exact Nat.le_of_ble_eq_true hf
    obtain ⟨ys0, q1, q2, q4⟩ := a3.at_
    have hlen : ys0.length = d.length := by rw [q2.length]
    refine ⟨fun i m H4 => m = items.length - i ∧ i ≤ items.length ∧ ∃ w4 h4 d4, Sees w3 H3 w4 H4 ∧ LAt X.K g w1 H1 D w4 H4 h4 d4 (d.length + i) ∧ Post X.K g (relV X.K g) w1 H1 σ0 Q W ((lc1Go (wipeS sv vs1) mg1 mt1 me (items.drop i) d4 h4).bind k),
      ⟨items.length, by simp, Nat.zero_le _, w3, h3, d, Sees.refl _ _, ⟨a3.gd, a3.hk, ys0, q1, q2, by omega⟩, p⟩, ?_⟩
    rintro i m H4 ⟨rfl, hi, w4, h4, d4, se, a4, p4⟩
    by_cases hlt : i < items.length
    · right
      have hv : items[i]? = some items[i] := List.getElem?_eq_getElem hlt
      generalize items[i] = v at hv
      have hdrop : items.drop i = v :: items.drop (i + 1) := by
        obtain ⟨z, ez⟩ := List.getElem?_eq_some_iff.mp hv
        rw [← ez]
        exact List.drop_eq_getElem_cons hlt
      rw [hdrop] at p4
      simp only [lc1Go] at p4
      obtain ⟨go, yl⟩ := rJ.step w4 h4 H4 i v se a4.hk hv
      refine ⟨go, fun H' => ∃ w5 h5 d5, Sees w3 H3 w5 H' ∧ LAt X.K g w1 H1 D w5 H' h5 d5 (d.length + (i + 1)) ∧ Post X.K g (relV X.K g) w1 H1 σ0 Q W ((lc1Go (wipeS sv vs1) mg1 mt1 me (items.drop (i + 1)) d5 h5).bind k),
        fun H' q => ⟨items.length - (i + 1), by omega, rfl, hlt, q⟩, fun x H5 hy => ?_⟩
      obtain ⟨ex, k5, rx⟩ := yl x H5 hy
      cases em : mg1 v with
      | none => rw [em] at p4; exact p4.elim
      | some asg =>
        rw [em] at p4
        dsimp only at p4
        refine ⟨w4, h4, v, asg, k5, rx, em, fun ya rya => ?_⟩
        have se5 := se.trans ex.sees
        have rs5 := ((rs3.wipe vs1).mono _ _ se5).sets rya
        refine ⟨wipe_eq (is := is1) (setsR_length _ _) hs fun j hj => setsR_ne fun p hp z => ?_, ?_⟩
        · obtain ⟨q, hq, e⟩ := rya.ix p hp
          exact hj (by rw [← z, ← e]; exact hIn v asg em q hq)
        generalize setsV asg (wipeS sv vs1) = sv2 at rs5 p4
        generalize setsR ya (wipe σ vs1) = σ2 at rs5
        rw [Out.bind_assoc] at p4
        have a5 := a4.ext ex k5
        refine ⟨w4, sv2, h4, rs5, k5, ?_⟩
        cases et : mt1 sv2 h4 with
        | bad => rw [et] at p4; exact p4.elim
        | exc x h5 => rw [et] at p4; exact p4.elim
        | ok b h6 =>
          rw [et] at p4
          simp only [Out.nox, Out.bind] at p4
          intro w6 H6 b' e6 k6 eb
          have eb : b = b' := eb
          subst eb
          have a6 := a5.ext e6 k6
          cases b with
          | false =>
            rw [if_neg Bool.false_ne_true] at p4 ⊢
            obtain ⟨ys, b1, b2, b4⟩ := a6.at_
            exact ⟨w6, h6, d4, se5.trans e6.sees, ⟨a6.gd, a6.hk, ys, b1, b2, by omega⟩, p4⟩
          | true =>
            rw [if_pos rfl] at p4 ⊢
            refine ⟨w6, sv2, h6, rs5.mono _ _ e6.sees, k6, ?_⟩
            change Post _ _ _ _ _ _ _ _ (((me sv2 h6).nox.bind _).bind k) at p4
            rw [Out.bind_assoc] at p4
            cases ev : me sv2 h6 with
            | bad => rw [ev] at p4; exact p4.elim
            | exc x h7 => rw [ev] at p4; exact p4.elim
            | ok xv h7 =>
              rw [ev] at p4
              simp only [Out.nox, Out.bind] at p4
              intro w7 H7 z e7 k7 rz
              have a7 := a6.ext e7 k7
              obtain ⟨ys, b1, b2, b4⟩ := a7.at_
              have sg : Sees w7 H7 w7 (upd H7 D (.lst (ys ++ [z]))) := guard_set_sees a7.gd.P
              refine ⟨ys, b1, Nat.lt_of_lt_of_le (by omega) hz, w7, h7, d4 ++ [xv], ((se5.trans e6.sees).trans e7.sees).trans sg, ⟨a7.gd.set k1 hD, guard_set_hk a7.gd.P k7, ys ++ [z], upd_same, ?_, by rw [List.length_append, List.length_singleton]; omega⟩, p4⟩
              refine RVs.app (RVs.mono sg _ _ b2) ?_
              simp only [RVs]
              exact ⟨z, [], rfl, RV.mono sg _ _ rz, rfl⟩
    · left
      have e : i = items.length := by omega
      subst e
      refine ⟨rJ.stop w4 H4 se, fin w4 H4 h4 d4 (e3.sees.trans se) ?_ ?_⟩
      · obtain ⟨ys, b1, b2, b4⟩ := a4.at_
        exact ⟨a4.gd, a4.hk, ys, b1, b2, by omega⟩
      · rw [List.drop_length] at p4
        exact p4
theorem lc2_imp {vs vs1 : List Nat} (hIn : InIs mg is) (hs : ∀ j ∈ is, j ∈ vs) (hIn1 : InIs mg1 is1) (hs1 : ∀ j ∈ is1, j ∈ vs1) {σ : L2.St} {H : Hp} {Q : VK} (t : tG X.K g (relV X.K g) (lc2M mi mg mt mi1 mg1 mt1 vs vs1 me) W σ H Q) :
    tLc2 (tG X.K g (relI X.K g) mi W) (tGt X.K g mg) (tG X.K g relB mt W0) (tG X.K g (relI X.K g) mi1 W0) (tGt X.K g mg1) (tG X.K g relB mt1 W0) (tG X.K g (relV X.K g) me W0) vs vs1 σ H Q := by
  obtain ⟨w, sv, h, rs, hk, p⟩ := t
  refine seqG' rs hk p fun w1 H1 h1 items J e1 rs1 k1 r1 p1 => ?_
  intro D hD
  refine ⟨fun i m H2 => m = items.length - i ∧ i ≤ items.length ∧ ∃ w2 h2 d, LAt X.K g w1 H1 D w2 H2 h2 d 16777216 ∧ Post X.K g (relV X.K g) w1 H1 σ Q W ((lc2Go (wipeS sv vs) mg mt mi1 mg1 vs1 mt1 me (items.drop i) d h2).bind fun ys h3 => .ok (.lst ys) h3),
    ⟨items.length, by simp, Nat.zero_le _, w1.guard D, h1, [], ⟨Gd.start k1 hD, guard_hk k1 hD, [], upd_same, by simp [RVs], Nat.zero_le _⟩, by simpa using p1⟩, ?_⟩
  rintro i m H2 ⟨rfl, hi, w2, h2, d, a, p2⟩
  by_cases hlt : i < items.length
  · right
    have hv : items[i]? = some items[i] := List.getElem?_eq_getElem hlt
    generalize items[i] = v at hv
    have hdrop : items.drop i = v :: items.drop (i + 1) := by
      obtain ⟨z, ez⟩ := List.getElem?_eq_some_iff.mp hv
      rw [← ez]
      exact List.drop_eq_getElem_cons hlt
    rw [hdrop] at p2
    simp only [lc2Go] at p2
    obtain ⟨go, yl⟩ := r1.step w2 h2 H2 i v a.gd.sees a.hk hv
    refine ⟨go, fun H' => ∃ w3 h3 d, LAt X.K g w1 H1 D w3 H' h3 d 16777216 ∧ Post X.K g (relV X.K g) w1 H1 σ Q W ((lc2Go (wipeS sv vs) mg mt mi1 mg1 vs1 mt1 me (items.drop (i + 1)) d h3).bind fun ys h3 => .ok (.lst ys) h3),
      fun H' q => ⟨items.length - (i + 1), by omega, rfl, hlt, q⟩, fun x H3 hy => ?_⟩
    obtain ⟨ex, k3, rx⟩ := yl x H3 hy
    cases em : mg v with
    | none => rw [em] at p2; exact p2.elim
    | some asg =>
      rw [em] at p2
      dsimp only at p2
      refine ⟨w2, h2, v, asg, k3, rx, em, fun ya rya => ?_⟩
      have rs3 := ((rs1.wipe vs).mono _ _ (a.gd.sees.trans ex.sees)).sets rya
      refine ⟨wipe_eq (is := is) (setsR_length _ _) hs fun j hj => setsR_ne fun p hp z => ?_, ?_⟩
      · obtain ⟨q, hq, e⟩ := rya.ix p hp
        exact hj (by rw [← z, ← e]; exact hIn v asg em q hq)
      generalize setsV asg (wipeS sv vs) = sv2 at rs3 p2
      generalize setsR ya (wipe σ vs) = σ2 at rs3
      rw [Out.bind_assoc] at p2
      have a3 := a.ext ex k3
      refine ⟨w2, sv2, h2, rs3, k3, ?_⟩
      cases et : mt sv2 h2 with
      | bad => rw [et] at p2; exact p2.elim
      | exc x h4 => rw [et] at p2; exact p2.elim
      | ok b h4 =>
        rw [et] at p2
        simp only [Out.nox, Out.bind] at p2
        intro w4 H4 b' e4 k4 eb
        have eb : b = b' := eb
        subst eb
        have a4 := a3.ext e4 k4
        cases b with
        | false =>
          rw [if_neg Bool.false_ne_true] at p2 ⊢
          exact ⟨w4, h4, d, a4, p2⟩
        | true =>
          rw [if_pos rfl] at p2 ⊢
          refine inL_imp (k := fun d2 h2 => (lc2Go (wipeS sv vs) mg mt mi1 mg1 vs1 mt1 me (items.drop (i + 1)) d2 h2).bind fun ys h3 => .ok (.lst ys) h3) ⟨h1, k1⟩ hD hIn1 hs1 (rs3.mono _ _ e4.sees) a4 ?_ fun w5 H5 h5 d5 _ a5 p5 => ⟨w5, h5, d5, a5, p5⟩
          change Post _ _ _ _ _ _ _ _ (((mi1 sv2 h4).nox.bind _).bind _) at p2
          rw [Out.bind_assoc] at p2
          cases ei : (mi1 sv2 h4).nox with
          | bad => rw [ei] at p2; exact p2
          | exc x h5 => rw [ei] at p2; exact p2
          | ok its h5 =>
            rw [ei] at p2
            simp only [Out.bind] at p2 ⊢
            by_cases hf : fits (d.length + its.length) = true
            · rw [if_pos hf] at p2 ⊢
              cases eg : lc1Go (wipeS sv2 vs1) mg1 mt1 me its d h5 with
              | ok d2 h6 => rw [eg] at p2; exact p2
              | exc x h6 => rw [eg] at p2; exact p2
              | bad => rw [eg] at p2; exact p2
            · rw [if_neg hf] at p2
              exact p2.elim
  · left
    have e : i = items.length := by omega
    subst e
    refine ⟨r1.stop w2 H2 a.gd.sees, ?_⟩
    rw [List.drop_length] at p2
    obtain ⟨ys, b1, b2, b4⟩ := a.at_
    refine p2 (w2.bare w1.P) H2 (.ref D) a.gd.done (unguard_hk a.gd.P a.hk) ?_
    exact RV.lst_of b1 (a.gd.free k1 hD a.hk) (RVs.mono (unguard_sees a.gd.P) _ _ b2)
theorem re_lc2 {elt tg iter tg1 iter1 : Expr} {ifs ifs1 : List Expr} {scope : Scope} {pos : Pos} {own : List (Str × Nat)} {vs1 : List Nat} (hc : X.calm = true) (hN : X.N.Nodup) (hi : RI X g W tg iter mi) (ok : BlkOk X.N X.env.scope scope own) (hv : ∀ i ∈ vs1, i ∈ own.map (·.2)) (his : InIs mg is) (hs : ∀ j ∈ is, j ∈ own.map (·.2)) (his1 : InIs mg1 is1) (hs1 : ∀ j ∈ is1, j ∈ vs1)
    (hg : ∀ (s : Shared) (H : Hp) (C : Addr) (cl : List (Str × Addr)) (fp : List Addr), RG (X.blk s H scope (compEnvC scope cl C X.env) fp) g tg mg)
    (ht : ∀ (s : Shared) (H : Hp) (C : Addr) (cl : List (Str × Addr)) (fp : List Addr), RTs (X.blk s H scope (compEnvC scope cl C X.env) fp) g W0 ifs mt)
    (hi1 : ∀ (s : Shared) (H : Hp) (C : Addr) (cl : List (Str × Addr)) (fp : List Addr), RI (X.blk s H scope (compEnvC scope cl C X.env) fp) g W0 tg1 iter1 mi1)
    (hg1 : ∀ (s : Shared) (H : Hp) (C : Addr) (cl : List (Str × Addr)) (fp : List Addr), RG (X.blk s H scope (compEnvC scope cl C X.env) fp) g tg1 mg1)
    (ht1 : ∀ (s : Shared) (H : Hp) (C : Addr) (cl : List (Str × Addr)) (fp : List Addr), RTs (X.blk s H scope (compEnvC scope cl C X.env) fp) g W0 ifs1 mt1)
    (he : ∀ (s : Shared) (H : Hp) (C : Addr) (cl : List (Str × Addr)) (fp : List Addr), RE (X.blk s H scope (compEnvC scope cl C X.env) fp) g W0 elt me)
    (hf : ∀ x, foldedSetIterable iter X.env x = pure x := by intro _; rfl) (hf1 : ∀ env x, foldedSetIterable iter1 env x = pure x := by intro _ _; rfl) :
    RE X g W (.ListComp elt [⟨tg, iter, ifs, 0⟩, ⟨tg1, iter1, ifs1, 0⟩] scope pos) (lc2M mi mg mt mi1 mg1 mt1 (own.map (·.2)) vs1 me) :=
  pe_imp (pe_lc2 hc hN hi ok hv hg ht hi1 hg1 ht1 he hf hf1) fun σ H Q t => lc2_imp his hs his1 hs1 t
end
end Mv
set_option Elab.async false
set_option linter.all false
set_option maxRecDepth 100000
/-! Mv, part AM: enumerate; name = [.. for .. for ..]. -/
namespace PySem
open Sem (wp)
open AutoSeq1 (wpAny_loadPart')
set_option maxHeartbeats 1000000 in
theorem mv_enumerate_newT (l : Addr) (items : Array Value) (n : Nat) (dct : Option Addr) (sl : Array (Option Value)) :
    Meets (Builtin.«enumerate.__new__» ⟨[.type "enumerate", .ref l], []⟩) (fun _ R s => s.heap.get? l = some { cls := .type "tuple", dict := dct, data := .seq items n, slots := sl } ∧
      R (.ok (.ret (.ref (s.heap.push { cls := .type "tuple_iterator", data := .fields #[.ref l, .int 0 0] }).objs.size)))
        { s with heap := (s.heap.push { cls := .type "tuple_iterator", data := .fields #[.ref l, .int 0 0] }).push { cls := .type "enumerate", data := .fields #[.none, .bool false, .ref s.heap.objs.size, rawInt 0, .none, .none] } }) :=
  .of_wp fun prog w A R s h => by
    obtain ⟨hp, g, d, tk, os⟩ := s; obtain ⟨hl, h⟩ := h
    have hsub := sub_enumerate
    have hL : Heap.IsTuple (Shared.heap ⟨hp, g, d, tk, os⟩) l items := ⟨_, hl, rfl, n, rfl⟩
    wp_walk using wpAny_loadPart' hl
    refine wpAny_stack_any fun st => wpAny_pure ?_
    split
    · rename_i c _ _ _ _ _
      cases (c == Value.type "enumerate")
      · wp_walk using wpAny_loadPart' hl, wpAny_pyIter_tuple hL
        exact ⟨_, rfl, h⟩
      · wp_walk using wpAny_loadPart' hl, wpAny_pyIter_tuple hL
        exact ⟨_, rfl, h⟩
    · wp_walk using wpAny_loadPart' hl, wpAny_pyIter_tuple hL
      exact ⟨_, rfl, h⟩
end PySem
namespace Mv
open PySem PySem.Spec PyProof.Rows L2
theorem call_enumerate_tup {prog : Program} {w : World} {A : Around} {E : Value → Shared → Prop} {s : Shared} {l : Addr} {items : Array Value} {Q : Value → Shared → Prop} (hL : s.heap.IsTuple l items)
    (h : ∀ h', IsEnum h' (s.heap.objs.size + 1) s.heap.objs.size 0 .none → h'.IsTupleIter s.heap.objs.size l 0 → h'.objs.size = s.heap.objs.size + 2 →
      (∀ b o, s.heap.get? b = some o → h'.get? b = some o) → Q (.ref (s.heap.objs.size + 1)) { s with heap := h' }) :
    wpAny (model prog w) A (call (.type "enumerate") [.ref l]) Q E s := by
  obtain ⟨⟨c, dct, dt, sl⟩, hl, hc, n, hd⟩ := hL
  replace hc : c = .type "tuple" := hc
  replace hd : dt = .seq items n := hd
  subst hc hd
  refine callType_new PySem.F.called_enumerate (by decide) (PySem.F.typeCall_enumerate_1 _) (PySem.F.newCall_enumerate_1 _) (fun obj => PySem.F.args_object_init_2 obj _) PySem.F.entry_enumerate_new
    (mv_enumerate_newT l items n dct sl) ⟨hl, ?_⟩
  have hz : (s.heap.push { cls := .type "tuple_iterator", data := .fields #[.ref l, .int 0 0] }).objs.size = s.heap.objs.size + 1 := Heap.size_push ..
  show _ ∧ _
  rw [hz]
  have he : IsEnum ((s.heap.push { cls := .type "tuple_iterator", data := .fields #[.ref l, .int 0 0] }).push
      { cls := .type "enumerate", data := .fields #[.none, .bool false, .ref s.heap.objs.size, rawInt 0, .none, .none] }) (s.heap.objs.size + 1) s.heap.objs.size 0 .none := by
    have := Heap.get?_push_size (s.heap.push { cls := .type "tuple_iterator", data := .fields #[.ref l, .int 0 0] })
      (o := { cls := .type "enumerate", data := .fields #[.none, .bool false, .ref s.heap.objs.size, rawInt 0, .none, .none] }) rfl
    rw [hz] at this; exact this
  refine ⟨⟨_, he, rfl⟩, h _ he ⟨_, Heap.get?_push_of_some _ (Heap.get?_push_size _ rfl), rfl, rfl⟩ (by rw [Heap.size_push, hz]) fun b o x => Heap.get?_push_of_some _ (Heap.get?_push_of_some _ x)⟩
/-- the tuple at a, each item in a new pair -/
def IteT (K : PySem.W.Frag) (a : Addr) : It :=
  ⟨fun i H => ∃ (xs : List V) (x : V), SqT K H a xs ∧ xs[i]? = some x, fun i H v H' => ∃ T x, v = .ref T ∧ H T = none ∧ H' = upd H T (.tup [.int (i : Nat), x]) ∧ ∀ xs, SqT K H a xs → xs[i]? = some x, fun i H => ∃ xs : List V, SqT K H a xs ∧ xs.length = i⟩
theorem turn_enumT {P : Program} {w : World} {K : PySem.W.Frag} {elts : List Expr} {kk : Nat} {tpos : Pos} (a e it : Addr) :
    Turn P w K (.Tuple elts kk tpos) (IteT K a) [e, it] e (fun i h => (∃ old, IsEnum h e it ((i : Nat) : Int) old) ∧ h.IsTupleIter it a i ∧ e ≠ it ∧ a ≠ it ∧ a ≠ e) where
  mem := by simp
  obj := fun i h st b hb => by
    obtain ⟨⟨old, he⟩, ⟨o, ho, hc, hd⟩, _⟩ := st
    have e' : b = e ∨ b = it := by simpa using hb
    rcases e' with z | z
    · rw [z]; exact ⟨_, he, fun v q => nomatch q⟩
    · rw [z]; exact ⟨o, ho, fun v q => by rw [hd] at q; cases q⟩
  keep := fun i h h' st k => let ⟨⟨old, he⟩, hi, hne⟩ := st; ⟨⟨old, k e (by simp) _ he⟩, hi.at fun o q => k it (by simp) o q, hne⟩
  item := by
    intro X hP hw hK hc i pins s σ H E I hf st hg
    subst hP hw hK
    obtain ⟨⟨old, he⟩, hit, hne, hai, hae⟩ := st
    obtain ⟨xs, x, hq, hx⟩ := hg
    obtain ⟨its, rv, p, hz⟩ := I.tuple hq
    obtain ⟨u, hu, ru⟩ := rv.get hx
    have hel : e < s.heap.objs.size := Heap.lt_size he
    have hil : it < s.heap.objs.size := by obtain ⟨_, q, _⟩ := hit; exact Heap.lt_size q
    have hlt : i < its.toArray.size := by
      have := (List.getElem?_eq_some_iff.mp hu).1
      simpa using this
    have hA : X.A.in1.handled = none := I.ok.hd hc
    refine wpAny_pyNext_enum_itemD (Draws.tuple hA it a hai its.toArray) he ⟨hit, p⟩ hlt hne (by simp [hne, Ne.symm hae]) fun u' h' tk hP ho st' hT hsz hk => ?_
    have eu : u' = u := by
      have e1 : its[i]? = some u' := by simpa using hP
      rw [hu] at e1
      exact (Option.some.inj e1).symm
    subst eu
    have hit' := st'.1
    refine ⟨_, rfl, wpAny_letOwnedTupleGo_enum (s := { s with heap := h', toks := tk + 1 }) ho fun h'' he' sb => ?_⟩
    have hT2 : h''.get? s.heap.objs.size = some { cls := .type "tuple", data := .seq #[.int i tk, u'] } := (sb.2 _ (Nat.ne_of_gt hel)).trans hT
    have new : ObjOk X.prog X.w (upd H s.heap.objs.size (.tup [.int (i : Nat), x])) h'' s.heap.objs.size (.tup [.int (i : Nat), x]) :=
      ⟨by show 2 ≤ sizeLine; decide, [.int i tk, u'], .cons ⟨_, rfl⟩ (.cons ru .nil), ⟨_, hT2, rfl, _, rfl⟩⟩
    have I1 : Inv X pins σ (upd H s.heap.objs.size (.tup [.int (i : Nat), x])) { s with heap := h'', toks := tk + 1 } :=
      I.turnedNew (ch := [e, it]) (fun b ob hb q => (sb.2 b (fun z => hb (by simp [z]))).trans (hk b ob (fun z => hb (by simp [z])) (fun z => hb (by simp [z])) q)) hf (Nat.le_refl _) new
    refine ⟨.ref s.heap.objs.size, _, I1, rfl, ⟨_, x, rfl, I.hok.fresh (Nat.le_refl _), rfl, fun ys hy => by rw [I.tuple_inj hy hq]; exact hx⟩, ⟨⟨u', ?_⟩, hit'.at fun o q => (sb.2 it (Ne.symm hne)).trans q, hne, hai, hae⟩, fun b hb => ?_⟩
    · have e1 : ((i + 1 : Nat) : Int) = (i : Int) + 1 := by omega
      rw [e1]; exact he'
    · have hb' : b < s.heap.objs.size := by
        have e' : b = e ∨ b = it := by simpa using hb
        rcases e' with z | z
        · rw [z]; exact hel
        · rw [z]; exact hil
      rw [upd_ne (Nat.ne_of_lt hb')]
      exact (hf b hb).1
  done := by
    intro X hP hw hK hc i pins s σ H E I hf st hg
    subst hP hw hK
    obtain ⟨⟨old, he⟩, hit, hne, hai, hae⟩ := st
    obtain ⟨xs, hq, hx⟩ := hg
    obtain ⟨its, rv, p, hz⟩ := I.tuple hq
    obtain ⟨f0, f1, f2, f3, f4, f5⟩ := hf it (by simp)
    have hA : X.A.in1.handled = none := I.ok.hd hc
    have ei : i = its.toArray.size := by rw [List.size_toArray, ← rv.length]; exact hx.symm
    subst ei
    exact wpAny_pyNext_enum_endD (Draws.tuple hA it a hai its.toArray) he ⟨hit, p⟩ fun h' eb => ⟨rfl, I.turned (t' := s.toks) (fun b o hb q => eb b o hb q) f0 f1 f3 f4 f5⟩
  self := fun A i s Q E st h => let ⟨⟨_, he⟩, _⟩ := st; wpAny_pyIter_enum he h
def iEnumA (K : PySem.W.Frag) (ta : TA) : TI := fun σ H R => ta σ H fun vs H1 => ∃ a xs, vs = [.ref a] ∧ ((SqL K H1 a xs ∧ R (Ite K a) H1) ∨ (SqT K H1 a xs ∧ R (IteT K a) H1))
theorem pi_enumA {X : Cx} {e : Expr} {ta : TA} {p pos tpos : Pos} {elts : List Expr} {kk : Nat} (hg : Gl X "enumerate") (hm : X.mg "enumerate" = none) (ha : PA X [e] ta) (hs : starEach [e] X.env = [(false, eval e X.env)]) :
    PI X (.Tuple elts kk tpos) (.Call (.Name "enumerate" p) [e] [] pos) (iEnumA X.K ta) := by
  refine ⟨fun pins s σ H R I h => ?_⟩
  refine Call_ (ld_blt I hg hm boot_enumerate (PyProof.Rows.callWith_type1 (thn (ha.run pos pins s σ H _ I h) fun us s1 ⟨vs, H1, I1, r1, q1⟩ => ?_) hs rfl))
  obtain ⟨a, xs, ex, q⟩ := q1
  subst ex
  have fr : ∀ b ∈ [s1.heap.objs.size + 1, s1.heap.objs.size], FpOk X pins H1 b := fun b hb => by
    have e' : b = s1.heap.objs.size + 1 ∨ b = s1.heap.objs.size := by simpa using hb
    have hle : s1.heap.objs.size ≤ b := by
      rcases e' with z | z
      · rw [z]; exact Nat.le_add_right _ _
      · rw [z]; exact Nat.le_refl _
    exact I1.fpOk hle (I1.hok.fresh hle)
  cases r1 with
  | cons r rr =>
    cases rr
    cases r
    rcases q with ⟨hq, q⟩ | ⟨hq, q⟩
    · obtain ⟨its, rv, p', hz⟩ := I1.list hq
      refine call_enumerate_list p'.isList fun h' he hit hsz hk => wpAny_pyIter_enum he ?_
      have I2 : Inv X pins σ H1 { s1 with heap := h' } := I1.kept (t' := s1.toks) hk
      exact ⟨s1.heap.objs.size + 1, [s1.heap.objs.size + 1, s1.heap.objs.size], _, _, H1, rfl, I2, turn_enum a (s1.heap.objs.size + 1) s1.heap.objs.size, ⟨⟨.none, he⟩, hit, Nat.succ_ne_self _⟩, fr, q⟩
    · obtain ⟨its, rv, p', hz⟩ := I1.tuple hq
      obtain ⟨o1, ho1, _⟩ := id p'
      have hlt : a < s1.heap.objs.size := Heap.lt_size ho1
      refine call_enumerate_tup (show s1.heap.IsTuple a its.toArray from p') fun h' he hit hsz hk => wpAny_pyIter_enum he ?_
      have I2 : Inv X pins σ H1 { s1 with heap := h' } := I1.kept (t' := s1.toks) hk
      exact ⟨s1.heap.objs.size + 1, [s1.heap.objs.size + 1, s1.heap.objs.size], _, _, H1, rfl, I2, turn_enumT a (s1.heap.objs.size + 1) s1.heap.objs.size, ⟨⟨.none, he⟩, hit, Nat.succ_ne_self _, Nat.ne_of_lt hlt, Nat.ne_of_lt (Nat.lt_succ_of_lt hlt)⟩, fr, q⟩
section
variable {X : Cx} {g : Gx} {W : WX} {e : Expr} {ma : MA} {p pos : Pos}
def enumV (i : Int) : List VV → List VV
  | [] => []
  | x :: xs => .tup [.int i, x] :: enumV (i + 1) xs
theorem enumV_get : ∀ {xs : List VV} {k : Int} {i : Nat} {v : VV}, (enumV k xs)[i]? = some v → ∃ x, xs[i]? = some x ∧ v = .tup [.int (k + i), x]
  | [], _, i, v, h => by simp [enumV] at h
  | x :: xs, k, 0, v, h => by
    simp only [enumV, List.getElem?_cons_zero, Option.some.injEq] at h
    exact ⟨x, rfl, by rw [← h]; simp⟩
  | x :: xs, k, i + 1, v, h => by
    simp only [enumV, List.getElem?_cons_succ] at h
    obtain ⟨y, e1, e2⟩ := enumV_get (xs := xs) h
    refine ⟨y, e1, ?_⟩
    rw [e2]
    congr 3
    omega
theorem enumV_length : ∀ (xs : List VV) (k : Int), (enumV k xs).length = xs.length
  | [], _ => rfl
  | x :: xs, k => by simp [enumV, enumV_length xs]
theorem ite_ok {K : PySem.W.Frag} {w : Wd} {H : Hp} {xs : List VV} {a : Addr} {ys : List V} (st : ∀ w1 H1, Sees w H w1 H1 → SqL K H1 a ys) (r : RVs K g.adr w H xs ys) : ItOk K g w H (enumV 0 xs) (Ite K a) where
  step := fun w1 h1 H1 i v s k q => by
    obtain ⟨x, q1, rfl⟩ := enumV_get q
    obtain ⟨z, e1, r1⟩ := r.get i x q1
    refine ⟨⟨ys, z, st w1 H1 s, e1⟩, fun v H2 hy => ?_⟩
    obtain ⟨T, u, ev, hT, eH, h3⟩ := hy
    have f1 := h3 ys (st w1 H1 s)
    rw [e1] at f1
    cases f1
    rw [ev, Int.zero_add]
    exact zip_step k hT eH (by simp only [RV]) (RV.mono s _ _ r1)
  stop := fun w1 H1 s => ⟨ys, st w1 H1 s, by rw [enumV_length, r.length]; exact Nat.le_refl _⟩
theorem iteT_ok {K : PySem.W.Frag} {w : Wd} {H : Hp} {xs : List VV} {a : Addr} {ys : List V} (st : ∀ w1 H1, Sees w H w1 H1 → SqT K H1 a ys) (r : RVs K g.adr w H xs ys) : ItOk K g w H (enumV 0 xs) (IteT K a) where
  step := fun w1 h1 H1 i v s k q => by
    obtain ⟨x, q1, rfl⟩ := enumV_get q
    obtain ⟨z, e1, r1⟩ := r.get i x q1
    refine ⟨⟨ys, z, st w1 H1 s, e1⟩, fun v H2 hy => ?_⟩
    obtain ⟨T, u, ev, hT, eH, h3⟩ := hy
    have f1 := h3 ys (st w1 H1 s)
    rw [e1] at f1
    cases f1
    rw [ev, Int.zero_add]
    exact zip_step k hT eH (by simp only [RV]) (RV.mono s _ _ r1)
  stop := fun w1 H1 s => ⟨ys, st w1 H1 s, by rw [enumV_length, r.length]⟩
def enumI (a : MA) : MI := fun sv h => (a sv h).bind fun xs h1 => match xs with
  | [.tup xs] => .ok (enumV 0 xs) h1
  | [.lst xs] => .ok (enumV 0 xs) h1
  | [.ktu xs] => .ok (enumV 0 xs) h1
  | _ => .bad
theorem ri_enum {elts : List Expr} {kk : Nat} {tpos : Pos} (hg : Gl X "enumerate") (hm : X.mg "enumerate" = none) (ha : RA X g W [e] ma) (hs : starEach [e] X.env = [(false, eval e X.env)] := by rfl) :
    RI X g W (.Tuple elts kk tpos) (.Call (.Name "enumerate" p) [e] [] pos) (enumI ma) :=
  pi_imp (pi_enumA hg hm ha hs) fun σ H R ⟨w, sv, h, rs, hk, p⟩ => by
    refine seqG' rs hk p fun w1 H1 h1 v y e1 rs1 k1 r1 p1 => ?_
    split at p1
    · obtain ⟨z, rfl, r2⟩ := RVs.one r1
      obtain ⟨a, ys, rfl, q2, st⟩ := RV.tup_st r2
      exact ⟨a, ys, rfl, .inr ⟨st w1 H1 (Sees.refl _ _), Post.here p1 k1 (iteT_ok st q2)⟩⟩
    · obtain ⟨z, rfl, r2⟩ := RVs.one r1
      obtain ⟨a, ys, rfl, q2, st⟩ := RV.lst_st r2
      exact ⟨a, ys, rfl, .inl ⟨st w1 H1 (Sees.refl _ _), Post.here p1 k1 (ite_ok st q2)⟩⟩
    · obtain ⟨z, rfl, r2⟩ := RVs.one r1
      obtain ⟨a, ys, rfl, q2, st⟩ := RV.ktu_st r2
      exact ⟨a, ys, rfl, .inr ⟨st w1 H1 (Sees.refl _ _), Post.here p1 k1 (iteT_ok st q2)⟩⟩
    · exact p1.elim
/-- name = [.. for .. for ..] on one line, the name a local -/
theorem rs_setLc2 (i : Nat) {y : Str} {py spos : Pos} {tg iter tg1 iter1 elt : Expr} {ifs ifs1 : List Expr} {scope : Scope} {mi mi1 : MI} {mg mg1 : MG} {is is1 : List Nat} {mt mt1 : MT} {me : ME} {own : List (Str × Nat)} {vs1 : List Nat} (hc : X.calm = true) (hN : X.N.Nodup) (hi : RI X g W tg iter mi) (ok : BlkOk X.N X.env.scope scope own) (hv : ∀ i ∈ vs1, i ∈ own.map (·.2)) (his : InIs mg is) (hs : ∀ j ∈ is, j ∈ own.map (·.2)) (his1 : InIs mg1 is1) (hs1 : ∀ j ∈ is1, j ∈ vs1)
    (hg : ∀ (s : Shared) (H : Hp) (C : Addr) (cl : List (Str × Addr)) (fp : List Addr), RG (X.blk s H scope (compEnvC scope cl C X.env) fp) g tg mg)
    (ht : ∀ (s : Shared) (H : Hp) (C : Addr) (cl : List (Str × Addr)) (fp : List Addr), RTs (X.blk s H scope (compEnvC scope cl C X.env) fp) g W0 ifs mt)
    (hi1 : ∀ (s : Shared) (H : Hp) (C : Addr) (cl : List (Str × Addr)) (fp : List Addr), RI (X.blk s H scope (compEnvC scope cl C X.env) fp) g W0 tg1 iter1 mi1)
    (hg1 : ∀ (s : Shared) (H : Hp) (C : Addr) (cl : List (Str × Addr)) (fp : List Addr), RG (X.blk s H scope (compEnvC scope cl C X.env) fp) g tg1 mg1)
    (ht1 : ∀ (s : Shared) (H : Hp) (C : Addr) (cl : List (Str × Addr)) (fp : List Addr), RTs (X.blk s H scope (compEnvC scope cl C X.env) fp) g W0 ifs1 mt1)
    (he : ∀ (s : Shared) (H : Hp) (C : Addr) (cl : List (Str × Addr)) (fp : List Addr), RE (X.blk s H scope (compEnvC scope cl C X.env) fp) g W0 elt me)
    (hy : X.N[i]? = some y := by rfl) (hyl : X.env.scope.names.lookup y = some .local := by rfl)
    (hsw : swapsWith (.ListComp elt [⟨tg, iter, ifs, 0⟩, ⟨tg1, iter1, ifs1, 0⟩] scope pos) (some (.Name y py)) spos.line X.env = pure true := by first | exact sw_true rfl rfl rfl rfl | rfl) (hf : ∀ x, foldedSetIterable iter X.env x = pure x := by intro _; rfl) (hf1 : ∀ env x, foldedSetIterable iter1 env x = pure x := by intro _ _; rfl) :
    RS X g W (.Assign [.Name y py] (.ListComp elt [⟨tg, iter, ifs, 0⟩, ⟨tg1, iter1, ifs1, 0⟩] scope pos) spos) (setM i (lc2M mi mg mt mi1 mg1 mt1 (own.map (·.2)) vs1 me)) :=
  ps_imp (ps_setLc2 (te := tG X.K g (relV X.K g) me W0) (tt := tG X.K g relB mt W0) (tt1 := tG X.K g relB mt1 W0) (g := tGt X.K g mg) (g1 := tGt X.K g mg1) (wi1 := tG X.K g (relI X.K g) mi1 W0) (vs1 := vs1) hc hN hy hyl hsw hi ok hv hg ht hi1 hg1 ht1 he hf hf1) fun D σ H t => by
    obtain ⟨w, sl, h, f, k, p⟩ := t
    refine lc2_imp (mi := mi) (mi1 := mi1) his hs his1 hs1 (Q := fun x H1 => gName i x σ H1 D.nx) ?_
    exact seqS f k p fun w1 H1 h1 v y e1 f1 k1 r1 p1 => p1 (w1.drop i) H1 (σ.set i (some y)) drop_ext k1.drop (f1.setv r1)
end
end Mv
set_option Elab.async false
set_option linter.all false
set_option maxRecDepth 100000
/-! Mv, part AN: f(*e); {(..): v, ..}; dict of a list of pairs whose keys are tuples. -/
namespace Mv
open PySem PySem.Spec PyProof.Rows L2

/-! ### f(*e) -/
section
variable {X : Cx} {CX : CXT} {k : Nat} {f : Addr} {fd : FuncData} {ps : List Str} {sp : Sp} {dvs : List V} {ds : List Value} {E : L2.St → XK} {x : Str} {p sp_ pos : Pos} {e : Expr} {te : TE}
theorem pe_callSDS (F : FnOk X.prog X.w X.K X.mg X.base CX k f fd ps sp) (hr : Room k X.A) (hg : Gl X x) (hm : X.mg x = some (.ref f)) (hk : PySem.W.keepIn X.K (.ref f) = true) (hb : Binds X.K fd ps ds) (hd : Vals dvs ds) (hx : ∀ σ, PassesAt CX X σ (E σ))
    (he : PE X e te) (hdb : (x == ("__debug__" : Str)) = false) (hst : starEach [.Starred e sp_] X.env = [(true, eval e X.env)]) :
    PE X (.Call (.Name x p) [.Starred e sp_] [] pos) (fun σ H Q => te σ H fun y H1 => ∃ a xs, y = V.ref a ∧ (SqT X.K H1 a xs ∨ SqL X.K H1 a xs) ∧ sp (xs ++ dvs) H1 Q (E σ)) := by
  refine ⟨fun pins s σ H Q I h => ?_⟩
  refine wpAny_Call_Name_kw (ld_glob I hg hm ?_ hdb)
  refine PySem.W.callWith_S (h₀ := X.base) I.ok.mod.kin hk (thn (he.run pins s σ H _ I h) fun v s1 ⟨y, H1, I1, ry, a, xs, ey, hxs, q⟩ => ?_) hst
  subst ey
  obtain rfl : v = Value.ref a := ry
  exact StX.star_any I1 hxs fun us s2 I2 rv => ⟨I2.kIn, run_fnSD F hr hb hd (hx σ) I2 rv q⟩
end
section
variable {X : Cx} {g : Gx} {W : WX} {e : Expr} {me : ME} {p sp_ pos : Pos} {x : Str} {j k : Nat} {f : Addr} {ps : List Str} {mf : MF}
def callFS (mf : MF) (a : ME) : ME := fun sv h => (a sv h).bind fun x h1 => match x with
  | .tup vs => mf vs h1
  | .lst vs => mf vs h1
  | _ => .bad
theorem re_callOS (F : OkF X.prog X.w X.K X.mg g j f ps mf) (hr : Room k X.A) (hm : X.mg x = some (.ref f)) (tk : Takes X W) (he : RE X g W e me) (hj : j ≤ k := by omega) (hg : Gl X x := by rfl)
    (hdb : (x == ("__debug__" : Str)) = false := by decide) (hst : starEach [.Starred e sp_] X.env = [(true, eval e X.env)] := by rfl) :
    RE X g W (.Call (.Name x p) [.Starred e sp_] [] pos) (callFS mf me) := by
  obtain ⟨fd, F, B, kp, _⟩ := F
  refine pe_imp (pe_callSDS (E := WE W) ((F X.base).mono hj) hr hg hm kp B .nil (fun σ => passAt tk σ) he hdb hst) fun σ H Q ⟨w, sv, h, rs, hk, pp⟩ => ?_
  refine seqG' rs hk pp fun w1 H1 h1 v y e1 rs1 k1 r1 p1 => ?_
  have fin : ∀ (vs : List VV) (a : Addr) (ys : List V), RVs X.K g.adr w1 H1 vs ys → Post X.K g (relV X.K g) w1 H1 σ Q W (mf vs h1) → spM X.K g mf (ys ++ []) H1 Q (WE W σ) := fun vs a ys r p => by
    refine ⟨w1, h1, vs, k1, by rw [List.append_nil]; exact r, ?_⟩
    cases q : mf vs h1 with
    | ok v h2 => rw [q] at p; exact p
    | exc x h2 => rw [q] at p; exact p
    | bad => rw [q] at p; exact p
  split at p1
  · obtain ⟨a, ys, rfl, r2, st⟩ := RV.tup_st r1
    exact ⟨a, ys, rfl, .inl (st w1 H1 (Sees.refl _ _)), fin _ a ys r2 p1⟩
  · obtain ⟨a, ys, rfl, r2, st⟩ := RV.lst_st r1
    exact ⟨a, ys, rfl, .inr (st w1 H1 (Sees.refl _ _)), fin _ a ys r2 p1⟩
  · exact p1.elim
end

/-! ### {(..): v, ..} -/
/-- D[(..)] = v, whatever runs around -/
theorem t_dictSetA {X : Cx} {pins : List (Addr × Obj)} {σ : L2.St} {H : Hp} {s : Shared} {A : Around} {E : Value → Shared → Prop} {D b : Addr} {kvs : List (List Key × V)} {k : List Key} {v : V} {r : Value} {Q : Unit → Shared → Prop} (hu : A.units + 1 < cLine) (I : Inv X pins σ H s) (hD : H D = some (.dT kvs)) (hz : kvs.length < sizeLine)
    (eb : H b = some (.tup (k.map kV))) (rv : RelV v r) (h : ∀ s', Inv X pins σ (upd H D (.dT (putK kvs k v))) s' → Heap.SameBut D s.heap s'.heap → Q () s') : wpAny (model X.prog X.w) A (dictSet D (.ref b) r) Q E s := by
  obtain ⟨z, hd, xs, rel, dd⟩ := dt_of I.hok hD
  have zx : xs.length ≤ sizeLine := by rw [← Paired.length rel]; exact z
  have lp : (putK kvs k v).length ≤ sizeLine := by have := length_putK kvs k v; omega
  refine wpAny_dictSet_heap (hsz := zx) (show A.units < cLine by omega) (key_of I.hok eb) dd fun g dg sb => h _ ?_ sb
  obtain ⟨o, es, ep, e1, e2, e3, e4, _, e5⟩ := dg
  refine d_write I (by rw [hD]; exact True.intro) sb ⟨o, e1⟩ ⟨lp, hd, _, (rel.put k eb rv).keeps fun c ys ec => ?_, o, es, ep, e1, e2, e3, e4, e5⟩
  rw [upd_ne (ne_of ec hD (fun q => nomatch q))]
  exact ec
def mergeT (kvs more : List (List Key × V)) : List (List Key × V) := more.foldl (fun acc kv => putK acc kv.1 kv.2) kvs
theorem length_mergeT : ∀ (more kvs : List (List Key × V)), (mergeT kvs more).length ≤ kvs.length + more.length
  | [], kvs => Nat.le_refl _
  | p :: r, kvs => by
    have h1 := length_mergeT r (putK kvs p.1 p.2)
    have h2 := length_putK kvs p.1 p.2
    show (mergeT (putK kvs p.1 p.2) r).length ≤ _
    rw [List.length_cons]; omega
/-- the pairs (key, value) of a display stand for kvs -/
def PairT (H : Hp) : List (V × V) → List (List Key × V) → Prop := Paired fun p kv => (∃ b, p.1 = .ref b ∧ H b = some (.tup (kv.1.map kV))) ∧ p.2 = kv.2
theorem storeAll_T {X : Cx} {pins : List (Addr × Obj)} {σ : L2.St} {A : Around} {E : Value → Shared → Prop} {D : Addr} (hu : A.units + 1 < cLine) : ∀ {ps : List (V × V)} {more : List (List Key × V)} {vs : List (Value × Value)} {H : Hp} {s : Shared} {kvs : List (List Key × V)} {Q : Unit → Shared → Prop},
    Inv X pins σ H s → H D = some (.dT kvs) → kvs.length + more.length ≤ sizeLine → PairT H ps more → L2.VV ps vs → (∀ s', Inv X pins σ (upd H D (.dT (mergeT kvs more))) s' → Q () s') → wpAny (model X.prog X.w) A (storeAll D vs) Q E s
  | [], _, _, H, s, kvs, Q, I, hD, hz, pt, rel, h => by
    cases pt
    cases rel
    refine wpAny_pure (h s ?_)
    have e : upd H D (.dT (mergeT kvs [])) = H := by
      funext b
      by_cases c : b = D
      · rw [c, upd_same, hD]
        rfl
      · rw [upd_ne c]
    rw [e]
    exact I
  | p :: ps, _, _, H, s, kvs, Q, I, hD, hz, pt, rel, h => by
    cases pt with
    | @cons _ kv _ more hk t =>
      cases rel with
      | @cons _ q _ vs hq tq =>
        obtain ⟨⟨b, e1, e2⟩, e3⟩ := hk
        obtain ⟨q1, q2⟩ := q
        obtain ⟨h1, h2⟩ := hq
        dsimp only at h1 h2
        rw [e1] at h1
        cases (show q1 = Value.ref b from h1)
        rw [e3] at h2
        rw [List.length_cons] at hz
        unfold storeAll
        rw [List.forIn_cons]
        refine wpAny_bind (wpAny_bind (t_dictSetA hu I hD (by omega) e2 h2 fun s' I' _ => wpAny_pure ?_))
        have hp := length_putK kvs kv.1 kv.2
        have ih := storeAll_T (Q := Q) (E := E) (s := s') (ps := ps) (more := more) (vs := vs) hu I' upd_same (by omega) (Paired.mapP t fun a c z => ?_) tq fun s2 I2 => ?_
        · exact ih
        · obtain ⟨⟨b', z1, z2⟩, z3⟩ := z
          refine ⟨⟨b', z1, ?_⟩, z3⟩
          rw [upd_ne (ne_of z2 hD (fun q => nomatch q))]
          exact z2
        · rw [upd_upd] at I2
          exact h s2 I2
def tDispT (trs : List (TE × TE)) : TE := fun σ H Q => ∀ p, H p = none → tPairs trs σ (upd H p (.dT [])) fun ps H2 => H2 p = some (.dT []) ∧ ∃ kvs : List (List Key × V), PairT H2 ps kvs ∧ kvs.length ≤ 15 ∧ Q (.ref p) (upd H2 p (.dT (mergeT [] kvs)))
theorem pe_dispT {X : Cx} {pos : Pos} {keys : List (Option Expr)} {values : List Expr} {trs : List (TE × TE)} (hu : X.A.units + 1 < cLine) (h : PPs X pos keys values trs) (hall : keys.all (·.isSome) = true) (hl : keys.length = values.length) (h0 : keys ≠ [])
    (h15 : keys.length ≤ 15) : PE X (.Dict keys values pos) (tDispT trs) := by
  refine ⟨fun pins s σ H Q I q => ?_⟩
  have hn := I.hok.fresh (Nat.le_refl s.heap.objs.size)
  have I1 := I.laid (a := s.heap.objs.size) (o := .dT []) (h' := s.heap.push { cls := .type "dict", data := .dict #[] }) (t' := s.toks) (fun _ _ q => Heap.get?_push_of_some _ q) (Nat.le_refl _) (dt_empty s.heap I.big)
  refine wpAny_Dict_any hall hl h0 h15 (thn (h.run pins _ σ _ _ I1 (q _ hn)) fun ws s2 ⟨ps, H2, I2, rel, e, kvs, pt, lk, q2⟩ => ?_)
  exact storeAll_T hu I2 e (by rw [List.length_nil, sizeLine_eq]; omega) pt rel fun s' I' => ⟨.ref s.heap.objs.size, _, I', rfl, q2⟩
def putAllT : List (VV × VV) → KVs → Option KVs
  | [], d => some d
  | (x, y) :: r, d => match keyT x with
    | some _ => putAllT r (putT d.1 d.2 x y)
    | none => none
def dlitTM (l : List (ME × ME)) : ME := fun sv h => (pairsGo l sv h).bind fun ps h1 => if Nat.ble ps.length 15 then (match putAllT ps ([], []) with
  | some d => .ok (.dtt d.1 d.2) h1
  | none => .bad) else .bad
theorem putAllT_ok {K : PySem.W.Frag} {g : Gx} {w : Wd} {H : Hp} : ∀ {ps : List (VV × VV)} {psV : List (V × V)} {d d2 : KVs} {kvs : List (List Key × V)}, relPs K g w H ps psV → putAllT ps d = some d2 → d.1 = keysT kvs → RVs K g.adr w H d.2 (kvs.map fun p => p.2) →
    ∃ more : List (List Key × V), PairT H psV more ∧ d2.1 = keysT (mergeT kvs more) ∧ RVs K g.adr w H d2.2 ((mergeT kvs more).map fun p => p.2)
  | [], psV, d, d2, kvs, r, e, a, b => by
    simp only [putAllT, Option.some.injEq] at e
    simp only [relPs] at r
    subst e r
    exact ⟨[], .nil, a, b⟩
  | (x, y) :: ps, psV, d, d2, kvs, r, e, a, b => by
    simp only [putAllT] at e
    simp only [relPs] at r
    obtain ⟨z, rest, rfl, r1, r2, r3⟩ := r
    split at e
    · rename_i k ek
      obtain ⟨a2, b2⟩ := putT_ok a b ek r2
      obtain ⟨more, e1, e2, e3⟩ := putAllT_ok r3 e a2 b2
      obtain ⟨q, h1, h2, _⟩ := RV.keyT r1 ek
      exact ⟨(k, z.2) :: more, .cons ⟨⟨q, h1, h2⟩, rfl⟩ e1, e2, e3⟩
    · cases e
section
variable {X : Cx} {g : Gx} {W : WX}
theorem re_dlitT {pos : Pos} {keys : List (Option Expr)} {values : List Expr} {l : List (ME × ME)} {k : Nat} (hr : Room k X.A) (h : RPs X g W pos keys values l) (hall : keys.all (·.isSome) = true := by rfl) (hl : keys.length = values.length := by rfl) (h0 : keys ≠ [] := by simp) (h15 : keys.length ≤ 15 := by decide) : RE X g W (.Dict keys values pos) (dlitTM l) :=
  pe_imp (pe_lock (pe_dispT (Room.u1 hr) h hall hl h0 h15)) fun σ H Q ⟨w, sv, hh, rs, hk, p⟩ => by
    intro D hD
    refine pairs_imp (w0 := w) (H0 := H) (σ0 := σ) (Q := Q) l (k := fun ps h1 => if Nat.ble ps.length 15 then (match putAllT ps ([], []) with | some d => .ok (.dtt d.1 d.2) h1 | none => .bad) else .bad) (rs.mono _ _ (guard_sees hk hD)) (guard_hk hk hD) p fun w1 H1 h1 ps psV e1 k1 r1 p1 => ?_
    have gd : Gd w H D w1 H1 := (Gd.start hk hD).ext e1
    have hD1 : H1 D = some (.dT []) := (e1.prot D (.inl (.inr rfl))).trans upd_same
    by_cases c : Nat.ble ps.length 15 = true
    · rw [if_pos c] at p1
      split at p1
      · rename_i d ed
        obtain ⟨more, e2, e3, e4⟩ := putAllT_ok (kvs := []) r1 ed rfl (by simp [RVs])
        have hlen : more.length ≤ 15 := by
          have h1 := relPs_len r1
          have h2 := Paired.length e2
          have c2 := Nat.le_of_ble_eq_true c
          omega
        refine ⟨hD1, more, e2, hlen, ?_⟩
        have sg : Sees w1 H1 w1 (upd H1 D (.dT (mergeT [] more))) := guard_set_sees gd.P
        have gd2 := gd.set (o := .dT (mergeT [] more)) hk hD
        have k2 := guard_set_hk (o := .dT (mergeT [] more)) gd.P k1
        exact fz_dtt hk hD gd2 k2 upd_same e3 (RVs.mono sg _ _ e4) p1
      · exact p1.elim
    · rw [if_neg c] at p1
      exact p1.elim
end
end Mv
set_option Elab.async false
set_option linter.all false
set_option maxRecDepth 100000
/-! Mv, part AO: dict of a list of pairs whose keys are tuples. -/
namespace Mv
open PySem PySem.Spec PyProof.Rows L2
abbrev PairQ := Addr × Addr × List Key × V
abbrev PairQ.kv (q : PairQ) : List Key × V := (q.2.2.1, q.2.2.2)
section
variable {X : Cx} {pins : List (Addr × Obj)} {σ : L2.St} {A : Around}
theorem upd_loopT {R : Result → Shared → Prop} {S I l : Addr} {items : Array Value} {res : Value} (hh : A.handled = none) (hu : A.units + 2 < cLine) (hlI : l ≠ I) (hSI : S ≠ I) (hSl : S ≠ l) :
    ∀ (rest : List PairQ) (i : Nat) (acc : List (List Key × V)) (ix : Int) (t : Tok) (s : Shared) (G : Hp), items.size = i + rest.length → acc.length + rest.length ≤ sizeLine →
      (∀ (j : Nat) (q : PairQ), rest[j]? = some q → items[i + j]? = some (.ref q.1) ∧ G q.1 = some (.tup [.ref q.2.1, q.2.2.2]) ∧ G q.2.1 = some (.tup (q.2.2.1.map kV))) →
      Inv X pins σ G s → FpOk X pins G I → s.heap.IsListIter I l i → s.heap.IsList l items → G S = some (.dT acc) →
      (∀ s', Inv X pins σ (upd G S (.dT (mergeT acc (rest.map PairQ.kv)))) s' → R (.ok (.ret res)) s') →
      codeAny (model X.prog X.w) A (.builtin "dict.update.loop" ⟨[.ref S, .ref I, .int ix t, res], []⟩) R s
  | [], i, acc, ix, t, s, G, hsz, hln, ht, J, fp, hit, hl, hm, hR => by
    refine codeAny_builtin ud_entry ?_
    rw [Around.under_plainId ud_plain _]
    show wpAny _ A.in1 (pyNext (.ref I) >>= _) _ _ s
    refine wpAny_bind (wpAny_pyNext_list_end (A := A.in1) hh hit hl (by first | exact Array.getElem?_eq_none (Nat.le_of_eq hsz) | (simp at hsz; simp; omega)) fun h' he => ?_)
    show wpAny _ A.in1 (Builtin.Dict.addKeywords S [] >>= _) _ _ _
    refine wpAny_bind (wpAny_pure (wpAny_pure ?_))
    obtain ⟨f0, f1, f2, f3, f4, f5⟩ := fp
    have J1 : Inv X pins σ G { s with heap := h' } := J.turned (t' := s.toks) (fun b o hb e => he b o hb e) f0 f1 f3 f4 f5
    have e : upd G S (.dT (mergeT acc [])) = G := by
      funext b
      by_cases c : b = S
      · rw [c, upd_same, hm]
        rfl
      · rw [upd_ne c]
    refine hR _ ?_
    rw [List.map_nil, e]
    exact J1
  | q :: rest, i, acc, ix, t, s, G, hsz, hln, ht, J, fp, hit, hl, hm, hR => by
    obtain ⟨hb, htup, hkey⟩ := ht 0 q rfl
    rw [List.length_cons] at hsz hln
    refine codeAny_builtin ud_entry ?_
    rw [Around.under_plainId ud_plain _]
    show wpAny _ A.in1 (pyNext (.ref I) >>= _) _ _ s
    refine wpAny_bind (wpAny_pyNext_list_item (x := .ref q.1) hit hl (by simpa using hb) fun h1 hit1 hs1 => ?_)
    have fp' := fp
    obtain ⟨f0, f1, f2, f3, f4, f5⟩ := fp'
    have J1 : Inv X pins σ G { s with heap := h1 } := J.turned (t' := s.toks) (fun b o hb e => (hs1.2 b hb).trans e) f0 f1 f3 f4 f5
    have hl1 : h1.IsList l items := hl.extBut hs1.extBut hlI
    obtain ⟨_, its, rv, o, ho, hc, n, hd⟩ := (show ObjOk X.prog X.w G h1 q.1 (.tup [.ref q.2.1, q.2.2.2]) from J1.hok q.1 _ htup)
    obtain ⟨u1, u2, rfl, r1, r2⟩ := rv.two
    cases (show u1 = Value.ref q.2.1 from r1)
    show wpAny _ A.in1 (holding [Value.ref q.1] _ >>= _) _ _ _
    refine wpAny_bind (wpAny_holding ?_)
    refine wpAny_bind (wpAny_tryCatch ?_)
    unfold Builtin.Dict.pairItems
    refine wpAny_bind (wpAny_typeOf (T := "tuple") ⟨o, ho, hc⟩ ?_)
    rw [if_pos (by first | decide | rfl | simp)]
    refine wpAny_bind (wpAny_seqItems ho hd (wpAny_pure ?_))
    show wpAny _ A.in1 (holding [Value.ref q.2.1, u2] (dictSet S (Value.ref q.2.1) u2)) _ _ _
    refine wpAny_holding (t_dictSetA (show A.units + 1 + 1 < cLine by omega) J1 hm (by omega) hkey r2 fun s2 J2 sb2 => ?_)
    have nS : ∀ b xs, G b = some (.tup xs) → b ≠ S := fun b xs e => ne_of e hm (fun z => nomatch z)
    have fp2 : FpOk X pins (upd G S (.dT (putK acc q.2.2.1 q.2.2.2))) I := ⟨by rw [upd_ne (Ne.symm hSI)]; exact f0, f1, f2, f3, f4, f5⟩
    refine wpAny_pure ⟨plainId_quiet ud_plain _, upd_loopT (items := items) hh hu hlI hSI hSl rest (i + 1) (putK acc q.2.2.1 q.2.2.2) (ix + 1) 0 s2 _ (show items.size = i + 1 + rest.length by omega) ?_ (fun j q' e => ?_) J2 fp2 ?_ ?_ upd_same fun s' J' => ?_⟩
    · have z := length_putK acc q.2.2.1 q.2.2.2
      omega
    · obtain ⟨z1, z2, z3⟩ := ht (j + 1) q' (by simpa using e)
      refine ⟨?_, ?_, ?_⟩
      · rw [show i + 1 + j = i + (j + 1) by omega]
        exact z1
      · rw [upd_ne (nS _ _ z2)]
        exact z2
      · rw [upd_ne (nS _ _ z3)]
        exact z3
    · exact hit1.at fun o' e => (sb2.2 I (Ne.symm hSI)).trans e
    · exact hl1.extBut sb2.extBut (Ne.symm hSl)
    · rw [upd_upd] at J'
      exact hR s' J'
end
section
variable {X : Cx}
def rDictPT (K : PySem.W.Frag) : List V → Hp → VK → Prop := fun xs H Q => ∃ (a : Addr) (ps : List PairQ), xs = [.ref a] ∧ SqL K H a (ps.map fun q => V.ref q.1) ∧ (∀ q ∈ ps, H q.1 = some (.tup [.ref q.2.1, q.2.2.2]) ∧ H q.2.1 = some (.tup (q.2.2.1.map kV))) ∧
    ∀ p, H p = none → Q (.ref p) (upd H p (.dT (mergeT [] (ps.map PairQ.kv))))
theorem call_dictPT (hcalm : X.calm = true) (hu : X.A.units + 64 < cLine) : CallR X (.type "dict") (rDictPT X.K) := by
  intro pins s σ H xs us Q I r q
  obtain ⟨a, ps, ex, hq, hp, q⟩ := q
  subst ex
  obtain ⟨u, eu, rx⟩ := r.one
  subst eu
  cases rx
  obtain ⟨its, rv, pl, hz⟩ := I.list hq
  have ei : its = (ps.map fun q => q.1).map Value.ref := by
    have : (ps.map fun q => V.ref q.1) = (ps.map fun q => q.1).map V.ref := by rw [List.map_map]; rfl
    rw [this] at rv
    exact L2.refs_at rv
  subst ei
  have hz2 : ps.length ≤ sizeLine := by simpa using hz
  obtain ⟨ol, n, hl, hc, hd, hdat⟩ := pl
  have hA : X.A.handled = none := I.ok.hd hcalm
  refine callType_codes (Q₁ := fun obj s₁ => obj = .ref s.heap.objs.size ∧ s₁ = { s with heap := s.heap.push { cls := .type "dict", data := .dict #[] } }) PySem.F.kt_called_dict (PySem.F.kt_typeCall_dict_1 _) PySem.F.entry_dict_init (kt_code_dict_new _ ⟨rfl, rfl⟩) ?_
  rintro obj s₁ ⟨rfl, rfl⟩
  have hn := I.hok.fresh (Nat.le_refl s.heap.objs.size)
  have I1 : Inv X pins σ (upd H s.heap.objs.size (.dT [])) { s with heap := s.heap.push { cls := .type "dict", data := .dict #[] } } := I.laid (a := s.heap.objs.size) (o := .dT []) (t' := s.toks) (fun _ _ q => Heap.get?_push_of_some _ q) (Nat.le_refl _) (dt_empty s.heap I.big)
  have hT : (⟨s.heap.push { cls := .type "dict", data := .dict #[] }, s.gens, s.drawn, s.toks, s.os⟩ : Shared).TypeIs (.ref s.heap.objs.size) "dict" := ⟨_, Heap.get?_push_size _ rfl, rfl⟩
  have k0 : ∀ b o, s.heap.get? b = some o → (s.heap.push { cls := .type "dict", data := .dict #[] }).get? b = some o := fun b o e => Heap.get?_push_of_some _ e
  refine ⟨hT, PySem.F.args_dict_init_2 _ _, ?_⟩
  unfold Builtin.«dict.__init__»
  refine wpAny_bind ?_
  unfold Builtin.Dict.selfAndRest
  refine wpAny_bind (wpAny_notOrdered_dict hT ?_)
  show wpAny _ _ (pure (s.heap.objs.size, [Value.ref a])) _ _ _
  refine wpAny_pure ?_
  show wpAny _ _ (Builtin.Dict.updateFrom "dict.__init__" s.heap.objs.size (.ref a) [] .none) _ _ _
  unfold Builtin.Dict.updateFrom
  refine wpAny_bind (wpAny_typeOf (T := "list") ⟨ol, k0 _ _ hl, hc⟩ ?_)
  rw [if_pos (by first | decide | rfl | simp)]
  refine wpAny_bind (miss_list (k0 _ _ hl) hc hdat hd hA fun h1 tk1 hk1 => ?_)
  rw [if_pos (show (none : Option Value).isNone = true from rfl)]
  refine wpAny_bind (wpAny_rule ?_)
  have hl1 : h1.IsList a ((ps.map fun q => q.1).map Value.ref).toArray := ⟨ol, hk1 _ _ (k0 _ _ hl), hc, n, hdat⟩
  have I2 : Inv X pins σ (upd H s.heap.objs.size (.dT [])) { s with heap := h1, toks := tk1 } := I1.kept (t' := tk1) hk1
  have hS1 : s.heap.objs.size < h1.objs.size := by
    have e : (s.heap.push { cls := .type "dict", data := .dict #[] }).get? s.heap.objs.size = some { cls := .type "dict", data := .dict #[] } := Heap.get?_push_size _ rfl
    exact Heap.lt_size (hk1 _ _ e)
  refine wpAny_bind (wpAny_pyIter_list hl1 ?_)
  have k2 : ∀ b o, h1.get? b = some o → (h1.push { cls := .type "list_iterator", data := .fields #[.ref a, .int 0 0] }).get? b = some o := fun b o e => Heap.get?_push_of_some _ e
  have I3 : Inv X pins σ (upd H s.heap.objs.size (.dT [])) { s with heap := h1.push { cls := .type "list_iterator", data := .fields #[.ref a, .int 0 0] }, toks := tk1 } := I2.kept (t' := tk1) k2
  have hlt : a < s.heap.objs.size := Heap.lt_size hl
  have nS : ∀ b o, H b = some o → b ≠ s.heap.objs.size := fun b o e => ne_of_none e hn
  have key := upd_loopT (X := X) (pins := pins) (σ := σ) (A := X.A.in1) (R := wants (fun r s₂ => r = .none ∧ EP X pins σ Q (.ref s.heap.objs.size) s₂) X.xe) (S := s.heap.objs.size) (I := h1.objs.size) (l := a) (items := ((ps.map fun q => q.1).map Value.ref).toArray) (res := Value.none) hA (show X.A.units + 1 + 2 < cLine by omega)
    (Nat.ne_of_lt (Nat.lt_trans hlt hS1)) (Nat.ne_of_lt hS1) (Nat.ne_of_gt hlt) ps 0 [] 0 0
    { s with heap := h1.push { cls := .type "list_iterator", data := .fields #[.ref a, .int 0 0] }, toks := tk1 } _ (by simp) (by rw [List.length_nil, Nat.zero_add]; exact hz2)
    (fun j q e => by
      obtain ⟨z1, z2⟩ := hp q (List.mem_of_getElem? e)
      refine ⟨by simp [e], ?_, ?_⟩
      · rw [upd_ne (nS _ _ z1)]; exact z1
      · rw [upd_ne (nS _ _ z2)]; exact z2)
    I3 (I2.fpOk (Nat.le_refl _) (I2.hok.fresh (Nat.le_refl _))) ⟨_, Heap.get?_push_size _ rfl, rfl, rfl⟩ (hl1.at fun o e => k2 _ _ e) upd_same
    (fun s' J' => ⟨rfl, .ref s.heap.objs.size, _, J', rfl, by rw [upd_upd]; exact q _ hn⟩)
  first
    | exact wpAny_pure ⟨plainId_quiet ud_plain _, key⟩
    | exact wpAny_bind (wpAny_pure (wpAny_pure ⟨plainId_quiet ud_plain _, key⟩))
end

/-! ### the mirror -/
def pairsOfV : List VV → KVs → Option KVs
  | [], d => some d
  | .tup [x, y] :: r, d => (match keyT x with
    | some _ => pairsOfV r (putT d.1 d.2 x y)
    | none => none)
  | _ :: _, _ => none
/-- dict([..]) of pairs with tuple keys -/
def dictPM (a : MA) : ME := fun sv h => (a sv h).bind fun xs h1 => match xs with
  | [.lst ps] => (match pairsOfV ps ([], []) with
    | some d => .ok (.dtt d.1 d.2) h1
    | none => .bad)
  | _ => .bad
section
variable {K : PySem.W.Frag} {g : Gx} {w : Wd} {H : Hp} {h : VH}
theorem pairsOfV_ok : ∀ {xs : List VV} {ys : List V} {d d2 : KVs} {kvs : List (List Key × V)}, RVs K g.adr w H xs ys → pairsOfV xs d = some d2 → d.1 = keysT kvs → RVs K g.adr w H d.2 (kvs.map fun p => p.2) →
    ∃ ps : List PairQ, ys = (ps.map fun q => V.ref q.1) ∧ (∀ q ∈ ps, H q.1 = some (.tup [.ref q.2.1, q.2.2.2]) ∧ H q.2.1 = some (.tup (q.2.2.1.map kV))) ∧ d2.1 = keysT (mergeT kvs (ps.map PairQ.kv)) ∧ RVs K g.adr w H d2.2 ((mergeT kvs (ps.map PairQ.kv)).map fun p => p.2)
  | [], ys, d, d2, kvs, r, e, a, b => by
    simp only [pairsOfV, Option.some.injEq] at e
    simp only [RVs] at r
    subst e r
    exact ⟨[], rfl, (fun q hq => nomatch hq), a, b⟩
  | x :: xs, ys, d, d2, kvs, r, e, a, b => by
    unfold pairsOfV at e
    split at e
    · rename_i e0; cases e0
    · rename_i x1 y1 r1 e0
      cases e0
      split at e
      · rename_i k ek
        simp only [RVs] at r
        obtain ⟨z, rest, rfl, q1, q2⟩ := r
        simp only [RV] at q1
        obtain ⟨b1, zs, rfl, ⟨hb, _⟩, q1⟩ := q1
        obtain ⟨v1, v2, rfl, s1, s2⟩ := q1.two
        obtain ⟨kb, rfl, hkb, _⟩ := RV.keyT s1 ek
        obtain ⟨a2, b2⟩ := putT_ok a b ek s2
        obtain ⟨ps, e1, e2, e3, e4⟩ := pairsOfV_ok q2 e a2 b2
        refine ⟨(b1, kb, k, v2) :: ps, by rw [List.map_cons, ← e1], fun q hq => ?_, e3, e4⟩
        rcases List.mem_cons.mp hq with z | hq
        · rw [z]; exact ⟨hb, hkb⟩
        · exact e2 q hq
      · cases e
    · cases e
end
section
variable {X : Cx} {g : Gx} {W : WX} {e : Expr} {es : List Expr} {ma : MA} {p pos : Pos}
theorem re_dictP {k : Nat} (hr : Room k X.A) (hcalm : X.calm = true) (hg : Gl X "dict") (hm : X.mg "dict" = none) (ha : RA X g W [e] ma) (he : starEach [e] X.env = (false, eval e X.env) :: starEach [] X.env := by rfl) (hpl : (backTo pos (starEach [] X.env)).any (·.1) = false := by rfl) :
    RE X g W (.Call (.Name "dict" p) [e] [] pos) (dictPM ma) :=
  pe_imp (pe_lock (pe_callTy (call_dictPT hcalm (Room.u64 hr)) hg hm boot_dict ha (he := he) (hpl := hpl))) fun σ H Q ⟨w, sv, h, rs, hk, pp⟩ => by
    refine seqG' rs hk pp fun w1 H1 h1 vs ys e1 rs1 k1 r1 p1 => ?_
    split at p1
    · rename_i ps
      split at p1
      · rename_i d ed
        obtain ⟨y, rfl, r2⟩ := RVs.one r1
        obtain ⟨a, us, rfl, ha, r3⟩ := RV.lst_get r2
        obtain ⟨qs, rfl, e2, e3, e4⟩ := pairsOfV_ok (kvs := []) r3 ed rfl (by simp [RVs])
        refine ⟨a, qs, rfl, SqL.of ha, e2, fun q hq => ?_⟩
        have gd : Gd w1 H1 q (w1.guard q) (upd H1 q (.dT (mergeT [] (qs.map PairQ.kv)))) := Gd.start k1 hq
        have k2 := guard_hk (o := .dT (mergeT [] (qs.map PairQ.kv))) k1 hq
        exact fz_dtt k1 hq gd k2 upd_same e3 (RVs.mono (guard_sees k1 hq) _ _ e4) p1
      · exact p1.elim
    · exact p1.elim
end
end Mv
set_option Elab.async false
set_option linter.all false
set_option maxRecDepth 100000
/-! Mv, part AP: one of two mirrors. -/
namespace Mv
open PySem PySem.Spec PyProof.Rows L2
def orM (m m2 : ME) : ME := fun sv h => match m sv h with
  | .bad => m2 sv h
  | r => r
theorem re_alt {X : Cx} {g : Gx} {W : WX} {e : Expr} {m m2 : ME} (h1 : RE X g W e m) (h2 : RE X g W e m2) : RE X g W e (orM m m2) := ⟨fun pins s σ H Q I ⟨w, sv, h, rs, hk, p⟩ => by
  unfold orM at p
  split at p
  · exact h2.run pins s σ H Q I ⟨w, sv, h, rs, hk, p⟩
  · exact h1.run pins s σ H Q I ⟨w, sv, h, rs, hk, p⟩⟩
end Mv
set_option Elab.async false
set_option linter.all false
set_option maxRecDepth 100000
/-! Mv, part AQ: what a value does not hold is forgotten. -/
namespace Mv
open PySem PySem.Spec PyProof.Rows L2
mutual
def belowV (L : Nat) : VV → Bool
  | .ref n => Nat.blt n L
  | .tup xs => belowVs L xs
  | .ktu xs => belowVs L xs
  | .lst xs => belowVs L xs
  | .rol xs => belowVs L xs
  | .dct ks vs => belowVs L ks && belowVs L vs
  | .dtt _ vs => belowVs L vs
  | .ins _ fs => belowVs L fs
  | _ => true
def belowVs (L : Nat) : List VV → Bool
  | [] => true
  | x :: xs => belowV L x && belowVs L xs
end
def belowSs (L : Nat) : List (Option VV) → Bool
  | [] => true
  | none :: r => belowSs L r
  | some x :: r => belowV L x && belowSs L r
def belowO (L : Nat) : VO → Bool
  | .lst xs => belowVs L xs
  | .dtt _ vs => belowVs L vs
  | .dct ks vs => belowVs L ks && belowVs L vs
  | .ins _ m vs => Nat.blt m L && belowSs L vs
  | _ => true
def ntO : VO → Bool
  | .tbl _ _ => false
  | _ => true
def Wd.cut (w : Wd) (L : Nat) : Wd := { w with phi := w.phi.take L }
section
variable {K : PySem.W.Frag} {g : Gx} {w w1 : Wd} {H H1 : Hp} {h h1 : VH} {L : Nat} {G : Nat → Addr}
theorem cut_phi {n : Nat} {a : Option Addr} (e : (w.cut L).phi[n]? = some a) : n < L ∧ w.phi[n]? = some a := by
  unfold Wd.cut at e
  rw [List.getElem?_take] at e
  split at e
  · rename_i q
    exact ⟨q, e⟩
  · cases e
theorem phi_cut {n : Nat} {a : Option Addr} (q : n < L) (e : w.phi[n]? = some a) : (w.cut L).phi[n]? = some a := by
  unfold Wd.cut
  rw [List.getElem?_take, if_pos q]
  exact e
theorem mut_cut {a : Addr} : (w.cut L).mut a → w.mut a := by
  rintro (z | z | z)
  · exact .inl (List.mem_of_mem_take z)
  · exact .inr (.inl z)
  · exact .inr (.inr z)
theorem blt_lt {n m : Nat} (e : Nat.blt n m = true) : n < m := Nat.le_of_ble_eq_true e
mutual
theorem RV.shorn (hl : L ≤ w.phi.length) : ∀ (v : VV) (y : V), belowV L v = true → RV K G w H v y → RV K G (w.cut L) H v y
  | .non, _, _, r => by simp only [RV] at r ⊢; exact r
  | .bl _, _, _, r => by simp only [RV] at r ⊢; exact r
  | .int _, _, _, r => by simp only [RV] at r ⊢; exact r
  | .str _, _, _, r => by simp only [RV] at r ⊢; exact r
  | .ty _, _, _, r => by simp only [RV] at r ⊢; exact r
  | .adr _, _, _, r => by simp only [RV] at r ⊢; exact r
  | .ref n, _, b, r => by
    simp only [belowV] at b
    have b := blt_lt b
    simp only [RV] at r ⊢
    obtain ⟨a, e, h1, h2⟩ := r
    refine ⟨a, e, ?_, fun c hc => h2 c (cut_phi hc).2⟩
    unfold Wd.cut
    rw [List.length_take]
    omega
  | .tup xs, _, b, r => by
    simp only [belowV] at b
    simp only [RV] at r ⊢
    obtain ⟨a, ys, e, h1, h2⟩ := r
    exact ⟨a, ys, e, ⟨h1.1, fun z => h1.2 (mut_cut z)⟩, RVs.shorn hl xs ys b h2⟩
  | .ktu xs, _, b, r => by
    simp only [belowV] at b
    simp only [RV] at r ⊢
    obtain ⟨a, ys, e, h1, h2⟩ := r
    exact ⟨a, ys, e, h1.imp id (fun ⟨o, q1, q2, q3⟩ => ⟨o, q1, q2, fun z => q3 (mut_cut z)⟩), RVs.shorn hl xs ys b h2⟩
  | .lst xs, _, b, r => by
    simp only [belowV] at b
    simp only [RV] at r ⊢
    obtain ⟨a, ys, e, h1, h2⟩ := r
    exact ⟨a, ys, e, ⟨h1.1, fun z => h1.2 (mut_cut z)⟩, RVs.shorn hl xs ys b h2⟩
  | .rol xs, _, b, r => by
    simp only [belowV] at b
    simp only [RV] at r ⊢
    obtain ⟨a, ys, e, h1, h2⟩ := r
    exact ⟨a, ys, e, h1.imp (fun ⟨o, q1, q2⟩ => ⟨o, q1, fun z => q2 (mut_cut z)⟩) id, RVs.shorn hl xs ys b h2⟩
  | .dct ks vs, _, b, r => by
    simp only [belowV, Bool.and_eq_true] at b
    simp only [RV] at r ⊢
    obtain ⟨a, kvs, e, ⟨o, h1, h2⟩, h3, h4⟩ := r
    exact ⟨a, kvs, e, ⟨o, h1, fun z => h2 (mut_cut z)⟩, RVs.shorn hl ks _ b.1 h3, RVs.shorn hl vs _ b.2 h4⟩
  | .dtt ks vs, _, b, r => by
    simp only [belowV] at b
    simp only [RV] at r ⊢
    obtain ⟨a, kvs, e, ⟨o, h1, h2⟩, h3, h4⟩ := r
    exact ⟨a, kvs, e, ⟨o, h1, fun z => h2 (mut_cut z)⟩, h3, RVs.shorn hl vs _ b h4⟩
  | .ins _ fs, _, b, r => by
    simp only [belowV] at b
    simp only [RV] at r ⊢
    obtain ⟨a, vs, e1, ⟨ob, h1, h2, h3⟩, h4⟩ := r
    exact ⟨a, vs, e1, ⟨ob, h1, h2.imp fun _ _ q m _ => ⟨q, fun z => m (mut_cut z)⟩, fun z => h3 (mut_cut z)⟩, RVs.shorn hl fs vs b h4⟩
theorem RVs.shorn (hl : L ≤ w.phi.length) : ∀ (v : List VV) (y : List V), belowVs L v = true → RVs K G w H v y → RVs K G (w.cut L) H v y
  | [], _, _, r => by simp only [RVs] at r ⊢; exact r
  | x :: xs, _, b, r => by
    simp only [belowVs, Bool.and_eq_true] at b
    simp only [RVs] at r ⊢
    obtain ⟨y, ys, e, h1, h2⟩ := r
    exact ⟨y, ys, e, RV.shorn hl x y b.1 h1, RVs.shorn hl xs ys b.2 h2⟩
end
theorem RVo.shorn (hl : L ≤ w.phi.length) : ∀ (v : List (Option VV)) (y : List (Option V)), belowSs L v = true → RVo K G w H v y → RVo K G (w.cut L) H v y
  | [], _, _, r => by simp only [RVo] at r ⊢; exact r
  | none :: xs, _, b, r => by
    simp only [belowSs] at b
    simp only [RVo] at r ⊢
    obtain ⟨y, ys, e, h2⟩ := r
    exact ⟨y, ys, e, RVo.shorn hl xs ys b h2⟩
  | some x :: xs, _, b, r => by
    simp only [belowSs, Bool.and_eq_true] at b
    simp only [RVo] at r ⊢
    obtain ⟨y, ys, e, h1, h2⟩ := r
    exact ⟨y, ys, e, RV.shorn hl x y b.1 h1, RVo.shorn hl xs ys b.2 h2⟩
theorem RO.shorn (hl : L ≤ w.phi.length) {a : Addr} : ∀ (o : VO), belowO L o = true → RO K G w H o a → RO K G (w.cut L) H o a
  | .lst xs, b, ⟨ys, h1, h2⟩ => ⟨ys, h1, RVs.shorn hl _ _ b h2⟩
  | .dead, _, r => r.elim
  | .tbl _ _, _, ⟨h0, ps, h1, h2, h3⟩ => ⟨h0, ps, h1, h2, fun pos cv q => by
    obtain ⟨c, e1, e2, e3⟩ := h3 pos cv q
    exact ⟨c, e1, e2, fun z => e3 (mut_cut z)⟩⟩
  | .dtt ks vs, b, ⟨kvs, h1, h2, h3⟩ => ⟨kvs, h1, h2, RVs.shorn hl _ _ b h3⟩
  | .dct ks vs, b, ⟨kvs, h1, h2, h3⟩ => by
    simp only [belowO, Bool.and_eq_true] at b
    exact ⟨kvs, h1, RVs.shorn hl _ _ b.1 h2, RVs.shorn hl _ _ b.2 h3⟩
  | .ins c m vs, b, ⟨dx, ⟨h1, h2⟩, h3⟩ => by
    simp only [belowO, Bool.and_eq_true] at b
    have bm := blt_lt b.1
    refine ⟨dx, ⟨?_, fun z hz => h2 z (cut_phi hz).2⟩, h3.imp id fun ⟨e, ys, h4, h5⟩ => ⟨e, ys, h4, RVo.shorn hl _ _ b.2 h5⟩⟩
    unfold Wd.cut
    rw [List.length_take]
    omega
  | .sub true, _, r => r
  | .sub false, _, r => r
def gcOk (L : Nat) (h : VH) : Bool := (h.take L).all (belowO L) && (h.drop L).all ntO
theorem cut_ext (e : Ext w H w1 H1) (k : Hk K g.adr w h H) : Ext w H (w1.cut h.length) H1 where
  keep := fun a o q m => ⟨(e.keep a o q m).1, fun z => (e.keep a o q m).2 (mut_cut z)⟩
  refs := fun n b hn q => e.refs n b hn (cut_phi q).2
  len := by
    have h1 := e.len
    have h2 := k.len
    unfold Wd.cut
    rw [List.length_take]
    omega
  P := e.P
  O := e.O
  prot := e.prot
theorem cut_hk (hl : L ≤ w.phi.length) (k : Hk K g.adr w h H) (ok : gcOk L h = true) : Hk K g.adr (w.cut L) (h.take L) H where
  len := by
    unfold Wd.cut
    rw [List.length_take, List.length_take, k.len]
  inj := fun n m a h1 h2 => k.inj n m a (cut_phi h1).2 (cut_phi h2).2
  obj := fun n a hn => by
    obtain ⟨q1, q2⟩ := cut_phi hn
    obtain ⟨o, h1, h2⟩ := k.obj n a q2
    have e : (h.take L)[n]? = some o := by rw [List.getElem?_take, if_pos q1]; exact h1
    unfold gcOk at ok
    rw [Bool.and_eq_true] at ok
    exact ⟨o, e, RO.shorn hl o (List.all_eq_true.mp ok.1 o (List.mem_of_getElem? e)) h2⟩
  has := fun n o hn ne => by
    rw [List.getElem?_take] at hn
    split at hn
    · rename_i q
      obtain ⟨a, ha⟩ := k.has n o hn ne
      exact ⟨a, phi_cut q ha⟩
    · cases hn
  prot := fun a ha => ⟨(k.prot a ha).1, fun z => (k.prot a ha).2 (List.mem_of_mem_take z)⟩
  own := k.own
  ownI := k.ownI
  spc := fun a o q => by
    have h1 := k.spc a o q
    cases o with
    | tbl ps =>
      obtain ⟨n, hn⟩ := List.getElem?_of_mem (show some a ∈ w.phi from h1)
      by_cases c : n < L
      · exact List.mem_of_getElem? (phi_cut c hn)
      · exfalso
        obtain ⟨u, e, r⟩ := k.obj n a hn
        unfold gcOk at ok
        rw [Bool.and_eq_true] at ok
        have e2 : (h.drop L)[n - L]? = some u := by
          rw [List.getElem?_drop]
          rw [show L + (n - L) = n by omega]
          exact e
        have nt := List.all_eq_true.mp ok.2 u (List.mem_of_getElem? e2)
        cases u with
        | lst xs => obtain ⟨ys, z, _⟩ := r; rw [q] at z; cases z
        | dead => exact r.elim
        | tbl _ _ => cases nt
        | dtt ks vs => obtain ⟨kvs, z, _⟩ := r; rw [q] at z; cases z
        | dct ks vs => obtain ⟨kvs, z, _⟩ := r; rw [q] at z; cases z
        | ins c m vs =>
          obtain ⟨dx, _, ⟨_, z⟩ | ⟨_, ys, z, _⟩⟩ := r
          · rw [q] at z; cases z
          · rw [q] at z
            unfold SlX.SlO at z
            cases z
        | sub b =>
          cases b with
          | true => have z : H a = some (.xd []) := r; rw [q] at z; cases z
          | false => obtain ⟨b, z⟩ := r; rw [q] at z; cases z
    | ext φ => exact fun y z => h1 y (mut_cut z)
    | tup xs => exact fun z => h1 (mut_cut z)
    | _ => trivial
/-- the value of a part, all that it made besides forgotten -/
def gcM (a : ME) : ME := fun sv h => (a sv h).bind fun v h1 => if belowV h.length v && gcOk h.length h1 then .ok v (h1.take h.length) else .bad
theorem re_gc {X : Cx} {W : WX} {e : Expr} {m : ME} (he : RE X g W e m) : RE X g W e (gcM m) := pe_imp he fun σ H Q ⟨w, sv, h, rs, hk, p⟩ => by
  refine ⟨w, sv, h, rs, hk, ?_⟩
  unfold gcM at p
  cases q : m sv h with
  | ok v h1 =>
    rw [q] at p
    simp only [Out.bind] at p
    split at p
    · rename_i ok
      rw [Bool.and_eq_true] at ok
      intro w' H' y ex k r
      have hl : h.length ≤ w'.phi.length := by
        have h1 := ex.len
        have h2 := hk.len
        omega
      exact p (w'.cut h.length) H' y (cut_ext ex hk) (cut_hk hl k ok.2) (RV.shorn hl v y ok.1 r)
    · exact p.elim
  | exc x h1 => rw [q] at p; exact p
  | bad => rw [q] at p; exact p
end
end Mv
set_option Elab.async false
set_option linter.all false
set_option maxRecDepth 100000
/-! Mv, part AR: draws: ints that are known within bounds; the loops of a law's own body. -/
namespace Mv
open PySem PySem.Spec PyProof.Rows L2
/-- an int between bounds, an int, an int from 0 on; the heap stays -/
def IB (a : ME) (sv : Sv) (h : VH) (l u : Int) : Prop := ∃ i, a sv h = .ok (.int i) h ∧ l ≤ i ∧ i ≤ u
def IA (a : ME) (sv : Sv) (h : VH) : Prop := ∃ i, a sv h = .ok (.int i) h
theorem mulC_small {i j : Int} (hi : i.natAbs < 2 ^ 4000) (hj : j.natAbs < 2 ^ 4000) : mulC i j = true := by
  have a := PySem.intBits_le_iff.mpr hi
  have b := PySem.intBits_le_iff.mpr hj
  unfold mulC
  rw [bitsN_eq, bitsN_eq]
  exact Nat.ble_eq_true_of_le (by omega)
theorem pylong_small {i j : Int} (hi : i.natAbs < 2 ^ 4000) (hj : 0 < j) : pylongN i j = false := by
  have a := PySem.intBits_le_iff.mpr hi
  exact (divp_ok hj (by omega)).2
section
variable {a b : ME} {sv : Sv} {h : VH} {l u l1 u1 l2 u2 : Int}
theorem IB.ia (x : IB a sv h l u) : IA a sv h := let ⟨i, e, _, _⟩ := x; ⟨i, e⟩
theorem IB.wk (x : IB a sv h l u) (h1 : l1 ≤ l) (h2 : u ≤ u1) : IB a sv h l1 u1 := let ⟨i, e, q1, q2⟩ := x; ⟨i, e, Int.le_trans h1 q1, Int.le_trans q2 h2⟩
theorem IB_c {i : Int} : IB (cM (.int i)) sv h i i := ⟨i, rfl, Int.le_refl _, Int.le_refl _⟩
theorem IB_eq {i : Int} (e : a sv h = .ok (.int i) h) : IB a sv h i i := ⟨i, e, Int.le_refl _, Int.le_refl _⟩
theorem IB_var {j : Nat} {i : Int} (e : sv[j]? = some (some (.int i))) (h1 : l ≤ i) (h2 : i ≤ u) : IB (varM j) sv h l u := ⟨i, by simp only [varM, e], h1, h2⟩
theorem IA_var {j : Nat} {i : Int} (e : sv[j]? = some (some (.int i))) : IA (varM j) sv h := ⟨i, by simp only [varM, e]⟩
theorem IB_add (x : IB a sv h l1 u1) (y : IB b sv h l2 u2) : IB (opM addV a b) sv h (l1 + l2) (u1 + u2) := by
  obtain ⟨i, e1, p1, p2⟩ := x
  obtain ⟨j, e2, q1, q2⟩ := y
  exact ⟨i + j, by simp only [opM, e1, e2, Out.bind, addV], by omega, by omega⟩
theorem IB_sub (x : IB a sv h l1 u1) (y : IB b sv h l2 u2) : IB (opM subV a b) sv h (l1 - u2) (u1 - l2) := by
  obtain ⟨i, e1, p1, p2⟩ := x
  obtain ⟨j, e2, q1, q2⟩ := y
  exact ⟨i - j, by simp only [opM, e1, e2, Out.bind, subV, intV, if_true], by omega, by omega⟩
theorem natAbs_lt {i u m : Int} (h0 : 0 ≤ i) (h1 : i ≤ u) (hm : u < m) {k : Nat} (hk : m.natAbs ≤ 2 ^ k) : i.natAbs < 2 ^ k := by omega
/-- the bound of what may be multiplied and divided -/
def Sm (u : Int) : Prop := u.natAbs < 2 ^ 4000
theorem Sm.of {i u : Int} (s : Sm u) (h0 : 0 ≤ i) (h1 : i ≤ u) : i.natAbs < 2 ^ 4000 := by
  unfold Sm at s
  exact Nat.lt_of_le_of_lt (by omega) s
theorem IB_mul (x : IB a sv h l1 u1) (y : IB b sv h l2 u2) (h1 : 0 ≤ l1) (h2 : 0 ≤ l2) (s1 : Sm u1) (s2 : Sm u2) : IB (opM mulV a b) sv h (l1 * l2) (u1 * u2) := by
  obtain ⟨i, e1, p1, p2⟩ := x
  obtain ⟨j, e2, q1, q2⟩ := y
  have c := mulC_small (s1.of (Int.le_trans h1 p1) p2) (s2.of (Int.le_trans h2 q1) q2)
  refine ⟨i * j, by simp only [opM, e1, e2, Out.bind, mulV, c, if_true], ?_, ?_⟩
  · exact Int.mul_le_mul p1 q1 h2 (Int.le_trans h1 p1)
  · exact Int.mul_le_mul p2 q2 (Int.le_trans h2 q1) (Int.le_trans (Int.le_trans h1 p1) p2)
theorem IB_mod {m : Int} (x : IA a sv h) (y : IB b sv h m m) (hm : 0 < m) : IB (opM modV a b) sv h 0 (m - 1) := by
  obtain ⟨i, e1⟩ := x
  obtain ⟨j, e2, q1, q2⟩ := y
  obtain rfl : j = m := Int.le_antisymm q2 q1
  have n0 := Int.emod_nonneg i (show j ≠ 0 by omega)
  have n1 := Int.emod_lt_of_pos i hm
  exact ⟨i % j, by simp only [opM, e1, e2, Out.bind, modV, intV, decide_eq_true hm, if_true], n0, by omega⟩
theorem IB_fdiv {m : Int} (x : IB a sv h l u) (y : IB b sv h m m) (hm : 0 < m) (hl : 0 ≤ l) (s : Sm u) : IB (opM fdivV a b) sv h 0 u := by
  obtain ⟨i, e1, p1, p2⟩ := x
  obtain ⟨j, e2, q1, q2⟩ := y
  obtain rfl : j = m := Int.le_antisymm q2 q1
  have i0 : 0 ≤ i := Int.le_trans hl p1
  have c := pylong_small (s.of i0 p2) hm
  refine ⟨i / j, by simp only [opM, e1, e2, Out.bind, fdivV, intV, decide_eq_true hm, c, Bool.not_false, Bool.and_self, if_true], Int.ediv_nonneg i0 (by omega), Int.le_trans (Int.ediv_le_self j i0) p2⟩
theorem IB_int (x : IB a sv h l u) : IB (callM intF (consA a nilA)) sv h l u := by
  obtain ⟨i, e1, p1, p2⟩ := x
  exact ⟨i, by simp only [callM, consA, nilA, e1, Out.bind, intF], p1, p2⟩
theorem IA_int (x : IA a sv h) : IA (callM intF (consA a nilA)) sv h := by
  obtain ⟨i, e1⟩ := x
  exact ⟨i, by simp only [callM, consA, nilA, e1, Out.bind, intF]⟩
theorem IA_abs (x : IA a sv h) : IA (callM absF (consA a nilA)) sv h := by
  obtain ⟨i, e1⟩ := x
  exact ⟨if i < 0 then -i else i, by simp only [callM, consA, nilA, e1, Out.bind, absF]⟩
theorem IB_max0 (x : IB a sv h l u) (hu : 0 ≤ u) : IB (callM maxF (consA (cM (.int 0)) (consA a nilA))) sv h 0 u := by
  obtain ⟨i, e1, p1, p2⟩ := x
  refine ⟨if i > 0 then i else 0, by simp only [callM, consA, nilA, cM, e1, Out.bind, maxF, int2F], ?_, ?_⟩
  · split <;> omega
  · split <;> omega
theorem IB_max (x : IB a sv h l1 u1) (y : IB b sv h l2 u2) (h1 : l ≤ l1) (h2 : u1 ≤ u) (h3 : u2 ≤ u) : IB (callM maxF (consA a (consA b nilA))) sv h l u := by
  obtain ⟨i, e1, p1, p2⟩ := x
  obtain ⟨j, e2, q1, q2⟩ := y
  refine ⟨if j > i then j else i, by simp only [callM, consA, nilA, e1, e2, Out.bind, maxF, int2F], ?_, ?_⟩
  · split <;> omega
  · split <;> omega
theorem IB_min (x : IB a sv h l1 u1) (y : IA b sv h) : IB (callM minF (consA a (consA b nilA))) sv h l1 u1 ∨ ∃ i, callM minF (consA a (consA b nilA)) sv h = .ok (.int i) h ∧ b sv h = .ok (.int i) h ∧ i < u1 := by
  obtain ⟨i, e1, p1, p2⟩ := x
  obtain ⟨j, e2⟩ := y
  by_cases c : j < i
  · exact .inr ⟨j, by simp only [callM, consA, nilA, e1, e2, Out.bind, minF, int2F, if_pos c], e2, by omega⟩
  · exact .inl ⟨i, by simp only [callM, consA, nilA, e1, e2, Out.bind, minF, int2F, if_neg c], p1, p2⟩
theorem IB_lt (x : IA a sv h) (y : IA b sv h) : IB (callM intF (consA (opM ltV a b) nilA)) sv h 0 1 := by
  obtain ⟨i, e1⟩ := x
  obtain ⟨j, e2⟩ := y
  by_cases c : i < j
  · exact ⟨1, by simp only [callM, consA, nilA, opM, e1, e2, Out.bind, ltV, cmpV, decide_eq_true c, intF, if_true], by decide, by decide⟩
  · exact ⟨0, by simp only [callM, consA, nilA, opM, e1, e2, Out.bind, ltV, cmpV, decide_eq_false c, intF, Bool.false_eq_true, if_false], by decide, by decide⟩
/-- a[k], a a list of three ints in the heap -/
theorem IB_ix {n k j : Nat} {x : Int} {xs : List VV} (e : sv[j]? = some (some (.ref n))) (hn : h[n]? = some (.lst xs)) (ex : atI xs (k : Int) = some (.int x)) (h1 : l ≤ x) (h2 : x ≤ u) : IB (opM ixA (varM j) (cM (.int (k : Int)))) sv h l u := by
  refine ⟨x, ?_, h1, h2⟩
  have d : dgetO h (.ref n) (.int (k : Int)) = none := by simp [dgetO, dictT, dictK, hn]
  simp only [opM, varM, e, cM, Out.bind, ixA, d, ixV, hn, ex]
theorem seqM_nx {a b : MS} {sl sl1 : Sl} {h h1 : VH} (e : a sl h = .nx sl1 h1) : seqM a b sl h = b sl1 h1 := by simp [seqM, e]
theorem seqM_rt {a b : MS} {sl : Sl} {v : VV} {h h1 : VH} (e : a sl h = .rt v h1) : seqM a b sl h = .rt v h1 := by simp [seqM, e]
theorem set_at {i : Nat} {a : ME} {sl : Sl} {h h1 : VH} {v : VV} (e : a (view sl) h = .ok v h1) : setM i a sl h = .nx (sl.set i (.val v)) h1 := by simp only [setM, e, Out.toS]
theorem set_IB {i : Nat} {sl : Sl} (x : IB a (view sl) h l u) : ∃ z : Int, setM i a sl h = .nx (sl.set i (.val (.int z))) h ∧ l ≤ z ∧ z ≤ u := by
  obtain ⟨z, e, h1, h2⟩ := x
  exact ⟨z, set_at e, h1, h2⟩
/-- the cell: a number of the script, or one made of the place -/
theorem cell_ok {ns : List Int} {s c d : Int} {f : VF} (ef : f = lenAF) (e0 : sv[0]? = some (some (.rol (ns.map VV.int)))) (e1 : sv[1]? = some (some (.int s))) (s0 : 0 ≤ s) (s1 : s ≤ 64) (c0 : 0 ≤ c) (c1 : Sm c) :
    IA (ifM (blM (opM ltV (varM 1) (callM f (consA (varM 0) (nilA))))) (callM intF (consA (opM ixA (varM 0) (varM 1)) (nilA))) (opM addV (opM mulV (cM (.int c)) (varM 1)) (cM (.int d)))) sv h := by
  subst ef
  have ln : lenAF [.rol (ns.map VV.int)] h = .ok (.int (ns.length : Nat)) h := by simp [lenAF, dictT, dictK, lenF]
  have v0 : ∀ h, varM 0 sv h = .ok (.rol (ns.map VV.int)) h := fun h => by simp only [varM, e0]
  have v1 : ∀ h, varM 1 sv h = .ok (.int s) h := fun h => by simp only [varM, e1]
  by_cases q : s < (ns.length : Nat)
  · have lt : ltV (.int s) (.int (ns.length : Nat)) h = .ok (.bl true) h := by simp [ltV, cmpV, q]
    have hl : s.toNat < ns.length := by omega
    have ix : ixA (.rol (ns.map VV.int)) (.int s) h = .ok (.int ns[s.toNat]) h := by
      have : atI (ns.map VV.int) s = some (.int ns[s.toNat]) := by
        unfold atI ixN
        rw [List.length_map, if_pos s0, if_pos q]
        simp [hl]
      simp [ixA, dgetO, dictT, dictK, ixV, this]
    exact ⟨ns[s.toNat], by simp only [ifM, blM, opM, v0, v1, callM, consA, nilA, Out.bind, ln, lt, if_true, ix, intF]⟩
  · have lt : ltV (.int s) (.int (ns.length : Nat)) h = .ok (.bl false) h := by simp [ltV, cmpV, q]
    have ss : Sm 64 := by unfold Sm; decide +kernel
    have m : mulV (.int c) (.int s) h = .ok (.int (c * s)) h := by simp only [mulV, mulC_small (c1.of c0 (Int.le_refl _)) (ss.of s0 s1), if_true]
    exact ⟨c * s + d, by simp only [ifM, blM, opM, v0, v1, callM, consA, nilA, Out.bind, ln, lt, Bool.false_eq_true, if_false, cM, m, addV]⟩
end
/-- a list of three ints is made -/
theorem new3 {a b c : ME} {sl : Sl} {h : VH} {l1 u1 l2 u2 l3 u3 : Int} (x : IB a (view sl) h l1 u1) (y : IB b (view sl) h l2 u2) (z : IB c (view sl) h l3 u3) :
    ∃ i j k : Int, retV (newM (consA a (consA b (consA c nilA)))) sl h = .rt (.ref h.length) (h ++ [.lst [.int i, .int j, .int k]]) ∧ (l1 ≤ i ∧ i ≤ u1) ∧ (l2 ≤ j ∧ j ≤ u2) ∧ l3 ≤ k ∧ k ≤ u3 := by
  obtain ⟨i, e1, i1, i2⟩ := x
  obtain ⟨j, e2, j1, j2⟩ := y
  obtain ⟨k, e3, k1, k2⟩ := z
  have f3 : fits 3 = true := rfl
  exact ⟨i, j, k, by simp only [retV, newM, consA, nilA, e1, e2, e3, Out.bind, List.length_cons, List.length_nil, Nat.reduceAdd, f3, if_true, Out.toS], ⟨i1, i2⟩, ⟨j1, j2⟩, k1, k2⟩
/-- o[k] = e, o a list of the heap -/
theorem setA_IB {n j k : Nat} {me : ME} {sl : Sl} {h : VH} {xs : List VV} {l u : Int} (x : IB me (view sl) h l u) (e : (view sl)[j]? = some (some (.ref n))) (hn : h[n]? = some (.lst xs)) (hk : ixN xs.length (k : Int) = some k) :
    ∃ z : Int, setAM (varM j) (cM (.int (k : Int))) me sl h = .nx sl (h.set n (.lst (xs.set k (.int z)))) ∧ l ≤ z ∧ z ≤ u := by
  obtain ⟨z, e1, h1, h2⟩ := x
  exact ⟨z, by simp only [setAM, e1, Out.toS, varM, e, cM, hn, hk], h1, h2⟩
/-- if e > 0: .. -/
theorem if_gt {a : ME} {x y : MS} {sl : Sl} {h : VH} {i : Int} (e : a (view sl) h = .ok (.int i) h) : ifS (blM (opM gtV a (cM (.int 0)))) x y sl h = if i > 0 then x sl h else y sl h := by
  by_cases c : i > 0
  · rw [if_pos c]
    simp only [ifS, blM, opM, e, cM, Out.bind, gtV, cmpV, decide_eq_true c, Out.toS, if_true]
  · rw [if_neg c]
    simp only [ifS, blM, opM, e, cM, Out.bind, gtV, cmpV, decide_eq_false c, Out.toS, Bool.false_eq_true, if_false]
theorem fn_rt {n np : Nat} {b : MS} {vs : List VV} {h h1 : VH} {v : VV} {sl : Sl} (l : vs.length = np) (e : startS n np vs = sl) (r : b sl h = .rt v h1) : fnM n np b vs h = .ok v h1 := by
  simp only [fnM, l, e, r, if_true]
theorem call_2 {mf : MF} {a b : ME} {sv : Sv} {h h1 h2 h3 : VH} {u v w : VV} (e1 : a sv h = .ok u h1) (e2 : b sv h1 = .ok v h2) (e3 : mf [u, v] h2 = .ok w h3) : callF mf (consA a (consA b nilA)) sv h = .ok w h3 := by
  simp only [callF, consA, nilA, e1, e2, e3, Out.bind]
/-- behind a draw all is forgotten -/
theorem gc_1 {a : ME} {sv : Sv} {h : VH} {i : Int} {o : VO} (e : a sv h = .ok (.int i) (h ++ [o])) (ok : h.all (belowO h.length) = true) (ok2 : ntO o = true) : gcM a sv h = .ok (.int i) h := by
  have t : (h ++ [o]).take h.length = h := by simp
  have d : (h ++ [o]).drop h.length = [o] := by simp
  simp only [gcM, e, Out.bind, belowV, gcOk, t, d, ok, List.all_cons, ok2, List.all_nil, Bool.and_self, if_true]

/-! ### loops -/
theorem forGo_nx {mg : MG} {b : MS} {v : VV} {vs : List VV} {sl sl0 sl1 : Sl} {asg : List (Nat × VV)} {h h1 : VH} (g : mg v = some asg) (st : setsS asg sl = sl0) (e : b sl0 h = .nx sl1 h1) : forGo mg b (v :: vs) sl h = forGo mg b vs sl1 h1 := by
  conv => lhs; unfold forGo
  simp only [g, st, e]
theorem forM_at {mi : MI} {mg : MG} {b : MS} {sl sl1 : Sl} {h h1 h2 : VH} {items : List VV} (e : mi (view sl) h = .ok items h1) (g : forGo mg b items sl h1 = .nx sl1 h2) : Mv.forM mi mg b sl h = .nx sl1 h2 := by
  simp only [Mv.forM, e, Out.toS, g]
theorem iota_mem : ∀ {n : Nat} {lo : Int} {v : VV}, v ∈ iota lo n → ∃ j : Int, v = .int j ∧ lo ≤ j ∧ j < lo + n
  | 0, _, _, h => by cases h
  | n + 1, lo, v, h => by
    rcases List.mem_cons.mp h with z | z
    · exact ⟨lo, z, by omega, by omega⟩
    · obtain ⟨j, e, h1, h2⟩ := iota_mem z
      exact ⟨j, e, by omega, by omega⟩
/-- a loop whose turns keep a shape of the slots -/
theorem forGo_inv {mg : MG} {b : MS} {h : VH} {I : Sl → Prop} : ∀ {items : List VV} {sl : Sl}, I sl → (∀ v ∈ items, ∀ sl, I sl → ∃ asg, mg v = some asg ∧ ∃ sl1, b (setsS asg sl) h = .nx sl1 h ∧ I sl1) → ∃ sl1, forGo mg b items sl h = .nx sl1 h ∧ I sl1
  | [], sl, i0, _ => ⟨sl, rfl, i0⟩
  | v :: r, sl, i0, st => by
    obtain ⟨asg, g, sl1, e, i1⟩ := st v (List.mem_cons_self ..) sl i0
    obtain ⟨sl2, e2, i2⟩ := forGo_inv i1 fun u hu => st u (List.mem_cons_of_mem _ hu)
    exact ⟨sl2, (forGo_nx g rfl e).trans e2, i2⟩
/-- range(max(1, min(c, len(script)))) -/
theorem rng_ok {ns : List Int} {sv : Sv} {h : VH} {c : Int} (e0 : sv[0]? = some (some (.rol (ns.map VV.int)))) (c1 : 1 ≤ c) (c2 : c ≤ 60) : ∃ t : Nat, (t : Int) ≤ c ∧ rangeI (consA (callM maxF (consA (cM (.int 1)) (consA (callM minF (consA (cM (.int c)) (consA (callM lenAF (consA (varM 0) (nilA))) (nilA)))) (nilA)))) (nilA)) sv h = .ok (iota 0 t) h := by
  obtain ⟨L, eL⟩ : ∃ L : Int, L = (ns.length : Int) := ⟨_, rfl⟩
  have ln : lenAF [.rol (ns.map VV.int)] h = .ok (.int L) h := by simp [lenAF, dictT, dictK, lenF, eL]
  have mn0 : minF [.int c, .int L] h = .ok (.int (if L < c then L else c)) h := rfl
  obtain ⟨a, mn, ha⟩ : ∃ a : Int, minF [.int c, .int L] h = .ok (.int a) h ∧ a ≤ c := by
    by_cases q : L < c
    · exact ⟨L, by rw [mn0]; simp [q], by omega⟩
    · exact ⟨c, by rw [mn0]; simp [q], by omega⟩
  have mx0 : maxF [.int 1, .int a] h = .ok (.int (if a > 1 then a else 1)) h := rfl
  obtain ⟨b, mx, hb⟩ : ∃ b : Int, maxF [.int 1, .int a] h = .ok (.int b) h ∧ 0 ≤ b ∧ b ≤ c := by
    by_cases q : a > 1
    · exact ⟨a, by rw [mx0]; simp [q], by omega⟩
    · exact ⟨1, by rw [mx0]; simp [q], by omega⟩
  obtain ⟨t, rfl⟩ : ∃ t : Nat, b = (t : Int) := ⟨b.toNat, by omega⟩
  refine ⟨t, by omega, ?_⟩
  have h1 : decide ((t : Int) < 4611686018427387904) = true := decide_eq_true (by omega)
  have h2 : decide (-4611686018427387904 ≤ (t : Int)) = true := decide_eq_true (by omega)
  simp only [rangeI, consA, nilA, callM, cM, varM, e0, Out.bind, ln, mn, mx, h1, h2, Bool.and_self, if_true, Int.toNat_natCast]
/-- one of the values of a list that is all alike -/
theorem of_map {α β : Type} {f : α → β} {v : β} : ∀ {l : List α} {n : Nat}, l.map f = List.replicate n v → ∀ x ∈ l, f x = v
  | [], _, _, x, hx => by cases hx
  | a :: l, 0, e, x, hx => by cases e
  | a :: l, n + 1, e, x, hx => by
    rw [List.map_cons, List.replicate_succ] at e
    injection e with e1 e2
    rcases List.mem_cons.mp hx with z | z
    · rw [z]; exact e1
    · exact of_map e2 x z
/-- the turns, part by part -/
theorem parts_ok {f : Int → Out VV} {v : Out VV} {c : Nat} (hc : 0 < c) {ps : List Nat} (e : ∀ k ∈ ps, (List.range c).map (fun i => f ((k * c + i : Nat) : Int)) = List.replicate c v) {n : Nat} (hn : n / c ∈ ps) : f (n : Int) = v := by
  have := of_map (e (n / c) hn) (n % c) (List.mem_range.mpr (Nat.mod_lt _ hc))
  rw [show n / c * c + n % c = n by rw [Nat.mul_comm]; exact Nat.div_add_mod n c] at this
  exact this
theorem set_IA {i : Nat} {a : ME} {sl : Sl} {h : VH} (x : IA a (view sl) h) : ∃ z : Int, setM i a sl h = .nx (sl.set i (.val (.int z))) h := by
  obtain ⟨z, e⟩ := x
  exact ⟨z, set_at e⟩
theorem last_get {h : VH} {o : VO} : (h ++ [o])[h.length]? = some o := by
  rw [List.getElem?_append_right (Nat.le_refl _)]
  simp
theorem last_set {h : VH} {o x : VO} : (h ++ [o]).set h.length x = h ++ [x] := by
  rw [List.set_append_right _ _ (Nat.le_refl _)]
  simp
/-- one turn: if not right(n): return False -/
theorem if_right {mr : MF} {a : ME} {sl : Sl} {h : VH} {n : Int} {x : MS} (e : a (view sl) h = .ok (.int n) h) (r : gcM (fun _ h => mr [.int n] h) [] h = .ok (.bl true) h) : ifS (notT (blM (gcM (callF mr (consA a nilA))))) x skipM sl h = .nx sl h := by
  have r2 : gcM (callF mr (consA a nilA)) (view sl) h = .ok (.bl true) h := by
    rw [← r]
    simp only [gcM, callF, consA, nilA, e, Out.bind]
  simp only [ifS, notT, blM, r2, Out.bind, Out.toS, Bool.not_true, Bool.false_eq_true, if_false, skipM]
theorem iota_at {x : Int} {n : Nat} {sv : Sv} {h : VH} (ex : x.toNat = n) (h0 : 0 ≤ x) (hn : x ≤ 1000) : rangeI (consA (cM (.int x)) (nilA)) sv h = .ok (iota 0 n) h := by
  have h1 : decide (x < 4611686018427387904) = true := decide_eq_true (by omega)
  have h2 : decide (-4611686018427387904 ≤ x) = true := decide_eq_true (by omega)
  subst ex
  simp only [rangeI, consA, nilA, cM, Out.bind, h1, h2, Bool.and_self, if_true]
theorem ret_IB {a : ME} {sl : Sl} {h : VH} {l u : Int} (x : IB a (view sl) h l u) : ∃ z : Int, retV a sl h = .rt (.int z) h ∧ l ≤ z ∧ z ≤ u := by
  obtain ⟨z, e, h1, h2⟩ := x
  exact ⟨z, by simp only [retV, e, Out.toS], h1, h2⟩
def isTrue (o : SOut) : Bool := match o with
  | .rt (.bl true) _ => true
  | _ => false
theorem isTrue_ok {o : SOut} (e : isTrue o = true) : ∃ h, o = .rt (.bl true) h := by
  unfold isTrue at e
  split at e
  · exact ⟨_, rfl⟩
  · cases e
end Mv
set_option Elab.async false
set_option linter.all false
set_option maxRecDepth 100000
/-! Mv, part AS: classes with slots: made, read, stored, asked; their methods. -/
namespace Mv
open PySem PySem.Spec PyProof.Rows L2 SlX

/-! ### what of the text such a class must have -/
def tyNames : List String := ["NoneType", "bool", "int", "str", "tuple", "list", "dict", "set"]
def clsSB (K : PySem.W.Frag) (C : Addr) : Bool := PySem.W.plainGet K C Str.empty && PySem.W.isClsIn K C && PySem.W.plainOver K C && decide (PySem.W.findIn K (.ref C) "__setattr__" = some (some (.builtin "object.__setattr__"))) &&
  decide (PySem.W.findIn K (.ref C) "__class__" = some (some (.builtin "object.__class__"))) && decide (PySem.W.specialIn K (.builtin "object.__class__") "__get__" = some (some (.builtin "getset_descriptor.__get__"))) &&
  decide (PySem.W.takesIn K (.builtin "object.__class__") = some true) && decide (PySem.W.mroIn K C (.type "object") = some true) && tyNames.all fun T => decide (PySem.W.kitOne K (.type T) (.ref C) = some false)
structure ClsS (K : PySem.W.Frag) (C : Addr) : Prop where
  c : SCls K C
  i : SIsi K C
  k : ∀ T : BTy, PySem.W.kitOne K (.type T.name) (.ref C) = some false
theorem clsSB_ok {K : PySem.W.Frag} {C : Addr} (h : clsSB K C = true) : ClsS K C := by
  unfold clsSB at h
  simp only [Bool.and_eq_true, decide_eq_true_eq] at h
  obtain ⟨⟨⟨⟨⟨⟨⟨⟨h1, h2⟩, h3⟩, h4⟩, h5⟩, h6⟩, h7⟩, h8⟩, h9⟩ := h
  refine ⟨⟨h1, h2, h3, h4⟩, ⟨h5, h6, h7, h8⟩, fun T => ?_⟩
  have := List.all_eq_true.mp h9
  cases T <;> exact of_decide_eq_true (this _ (by decide))
def slotB (K : PySem.W.Frag) (C : Addr) (f : Str) (i : Nat) : Bool := match PySem.W.findIn K (.ref C) f with
  | some (some (.ref p)) => decide (PySem.W.specialIn K (.ref p) "__get__" = some (some (.builtin "member_descriptor.__get__"))) && decide (PySem.W.takesIn K (.ref p) = some true) && decide (PySem.W.typeIn K (.ref p) = some (.type "member_descriptor")) &&
    decide (PySem.W.slotIn K p C = some i) && decide (i < 1000)
  | _ => false
theorem slotB_ok {K : PySem.W.Frag} {C : Addr} {f : Str} {i : Nat} (h : slotB K C f i = true) : ∃ p, Slot1 K C f p i := by
  unfold slotB at h
  split at h
  · rename_i p e
    simp only [Bool.and_eq_true, decide_eq_true_eq] at h
    obtain ⟨⟨⟨⟨h1, h2⟩, h3⟩, h4⟩, h5⟩ := h
    exact ⟨p, e, h1, h2, h3, h4, h5⟩
  · cases h
def mkB (K : PySem.W.Frag) (C f : Addr) : Bool := PySem.W.makesIn K C && decide (PySem.W.findIn K (.ref C) "__init__" = some (some (.ref f))) && PySem.W.isFn K (.ref f) && PySem.W.keepIn K (.ref C)
theorem mkB_ok {K : PySem.W.Frag} {C f : Addr} (h : mkB K C f = true) : Mk K C f := by
  unfold mkB at h
  simp only [Bool.and_eq_true, decide_eq_true_eq] at h
  obtain ⟨⟨⟨h1, h2⟩, h3⟩, h4⟩ := h
  exact ⟨h1, h2, h3, h4⟩
def methB (K : PySem.W.Frag) (C : Addr) (m : Str) (f : Addr) : Bool := decide (PySem.W.findIn K (.ref C) m = some (some (.ref f))) && PySem.W.isFn K (.ref f) && PySem.W.keepIn K (.ref f)
theorem methB_ok {K : PySem.W.Frag} {C f : Addr} {m : Str} (h : methB K C m f = true) : Meth K C m f := by
  unfold methB at h
  simp only [Bool.and_eq_true, decide_eq_true_eq] at h
  exact ⟨h.1.1, h.1.2, h.2⟩
def kitsB (K : PySem.W.Frag) (adr : Nat → Addr) (kt : List (Nat × Nat × Bool)) : Bool := kt.all fun p => decide (PySem.W.kitOne K (.ref (adr p.1)) (.ref (adr p.2.1)) = some p.2.2)
/-- the classes, by their numbers -/
def ClT (K : PySem.W.Frag) (g : Gx) (cs : List Nat) : Prop := ∀ c, cs.contains c = true → ClsS K (g.adr c)
theorem clT_ok {K : PySem.W.Frag} {g : Gx} {cs : List Nat} (h : (cs.all fun c => clsSB K (g.adr c)) = true) : ClT K g cs := fun c hc => clsSB_ok (List.all_eq_true.mp h c (by simpa using hc))
def SlT (K : PySem.W.Frag) (g : Gx) (f : Str) (st : List (Nat × Nat)) : Prop := ∀ c i, st.lookup c = some i → SCls K (g.adr c) ∧ ∃ p, Slot1 K (g.adr c) f p i
theorem slT_ok {K : PySem.W.Frag} {g : Gx} {f : Str} {st : List (Nat × Nat)} (h : (st.all fun p => clsSB K (g.adr p.1) && slotB K (g.adr p.1) f p.2) = true) : SlT K g f st := fun c i e => by
  have hm : (c, i) ∈ st := by
    clear h
    induction st with
    | nil => cases e
    | cons p r ih =>
      obtain ⟨a, b⟩ := p
      rw [List.lookup_cons] at e
      split at e
      · rename_i q
        cases e
        have : c = a := by simpa using q
        subst this
        exact List.mem_cons_self
      · exact List.mem_cons_of_mem _ (ih e)
  have := List.all_eq_true.mp h _ hm
  rw [Bool.and_eq_true] at this
  exact ⟨(clsSB_ok this.1).c, slotB_ok this.2⟩

/-! ### instances of the small heap -/
def canV : V → Value
  | .non => .none
  | .bl b => .bool b
  | .int i => .int i default
  | .str x => .str x default
  | .byt b => .bytes b default
  | .flt b => .float b default
  | .ref a => .ref a
  | .ty n => .type n
theorem can_ok (v : V) : RelV v (canV v) := by
  cases v <;> first | rfl | exact ⟨_, rfl⟩
theorem slO_not_code {a C dx : Addr} {ys : List (Option V)} {q : Str} : SlO a C dx ys ≠ LamX.CodeO a q := fun e => by
  unfold SlO LamX.CodeO at e
  injection e with e
  let sl : Array (Option Value) := (ys.map fun o => o.map canV).toArray
  let ob : Obj := { PySem.W.instObj C dx with slots := sl }
  let hp : Heap := { objs := Array.replicate (a + 1) ob }
  have hg : hp.get? a = some ob := by
    show (match (Array.replicate (a + 1) ob)[a]? with
      | some ⟨_, _, .freed, _⟩ => none
      | o => o) = some ob
    rw [Array.getElem?_replicate, if_pos (Nat.lt_succ_self a)]
  have h1 : ∃ sl : Array (Option Value), hp.get? a = some { PySem.W.instObj C dx with slots := sl } ∧ SlR ys sl := ⟨sl, hg, fun i v hv => ⟨canV v, by
    show (ys.map fun o => o.map canV).toArray[i]? = _
    rw [List.getElem?_toArray, List.getElem?_map, hv]
    rfl, can_ok v⟩⟩
  have h2 := congrFun e hp
  simp only at h2
  obtain ⟨oc, vs, t, g1, d1, _⟩ := h2.mp h1
  rw [hg] at g1
  cases g1
  cases d1
def putSO (i : Nat) (v : VV) (vs : List (Option VV)) : List (Option VV) := (vs ++ List.replicate (i + 1 - vs.length) none).set i (some v)
section
variable {K : PySem.W.Frag} {g : Gx} {w w1 : Wd} {H H1 : Hp} {h h1 : VH} {G : Nat → Addr} {n m c : Nat}
theorem RVo.length : ∀ {vs : List (Option VV)} {ys : List (Option V)}, RVo K G w H vs ys → vs.length = ys.length
  | [], _, r => by simp only [RVo] at r; subst r; rfl
  | none :: vs, _, r => by
    simp only [RVo] at r
    obtain ⟨y, l, rfl, r2⟩ := r
    simp [RVo.length r2]
  | some x :: vs, _, r => by
    simp only [RVo] at r
    obtain ⟨y, l, rfl, _, r2⟩ := r
    simp [RVo.length r2]
theorem RVo.get : ∀ {vs : List (Option VV)} {ys : List (Option V)} {i : Nat} {v : VV}, RVo K G w H vs ys → vs[i]? = some (some v) → ∃ y, ys[i]? = some (some y) ∧ RV K G w H v y
  | [], _, _, _, _, e => by simp at e
  | none :: vs, _, 0, _, _, e => by simp at e
  | none :: vs, _, i + 1, v, r, e => by
    simp only [RVo] at r
    obtain ⟨y, l, rfl, r2⟩ := r
    simpa using RVo.get r2 (by simpa using e)
  | some x :: vs, _, 0, v, r, e => by
    simp only [RVo] at r
    obtain ⟨y, l, rfl, r1, r2⟩ := r
    simp at e
    subst e
    exact ⟨y, rfl, r1⟩
  | some x :: vs, _, i + 1, v, r, e => by
    simp only [RVo] at r
    obtain ⟨y, l, rfl, r1, r2⟩ := r
    simpa using RVo.get r2 (by simpa using e)
theorem RVo.nones : ∀ n : Nat, RVo K G w H (List.replicate n none) (List.replicate n none)
  | 0 => by simp [RVo]
  | n + 1 => by
    simp only [List.replicate_succ, RVo]
    exact ⟨none, _, rfl, RVo.nones n⟩
theorem RVo.app : ∀ {vs vs' : List (Option VV)} {ys ys' : List (Option V)}, RVo K G w H vs ys → RVo K G w H vs' ys' → RVo K G w H (vs ++ vs') (ys ++ ys')
  | [], _, _, _, r, r' => by simp only [RVo] at r; subst r; exact r'
  | none :: vs, _, _, _, r, r' => by
    simp only [RVo] at r
    obtain ⟨y, l, rfl, r2⟩ := r
    simp only [List.cons_append, RVo]
    exact ⟨y, _, rfl, RVo.app r2 r'⟩
  | some x :: vs, _, _, _, r, r' => by
    simp only [RVo] at r
    obtain ⟨y, l, rfl, r1, r2⟩ := r
    simp only [List.cons_append, RVo]
    exact ⟨y, _, rfl, r1, RVo.app r2 r'⟩
theorem RVo.set : ∀ {vs : List (Option VV)} {ys : List (Option V)} (i : Nat) {v : VV} {y : V}, RVo K G w H vs ys → RV K G w H v y → RVo K G w H (vs.set i (some v)) (ys.set i (some y))
  | [], _, _, _, _, r, _ => by simp only [RVo] at r; subst r; simp [RVo]
  | none :: vs, _, 0, v, y, r, r' => by
    simp only [RVo] at r
    obtain ⟨z, l, rfl, r2⟩ := r
    simp only [List.set_cons_zero, RVo]
    exact ⟨y, l, rfl, r', r2⟩
  | some x :: vs, _, 0, v, y, r, r' => by
    simp only [RVo] at r
    obtain ⟨z, l, rfl, _, r2⟩ := r
    simp only [List.set_cons_zero, RVo]
    exact ⟨y, l, rfl, r', r2⟩
  | none :: vs, _, i + 1, v, y, r, r' => by
    simp only [RVo] at r
    obtain ⟨z, l, rfl, r2⟩ := r
    simp only [List.set_cons_succ, RVo]
    exact ⟨z, _, rfl, RVo.set i r2 r'⟩
  | some x :: vs, _, i + 1, v, y, r, r' => by
    simp only [RVo] at r
    obtain ⟨z, l, rfl, r1, r2⟩ := r
    simp only [List.set_cons_succ, RVo]
    exact ⟨z, _, rfl, r1, RVo.set i r2 r'⟩
theorem RVo.put {vs : List (Option VV)} {ys : List (Option V)} (i : Nat) {v : VV} {y : V} (r : RVo K G w H vs ys) (r' : RV K G w H v y) : RVo K G w H (putSO i v vs) (putS i y ys) := by
  unfold putSO putS
  rw [r.length]
  exact RVo.set i (RVo.app r (RVo.nones _)) r'
/-- an instance whose dict stands as it must -/
def insAt (h : VH) (n : Nat) : Option (Nat × Nat × List (Option VV)) := match h[n]? with
  | some (.ins c m vs) => (match h[m]? with
    | some (.sub b) => if b == !vs.isEmpty then some (c, m, vs) else none
    | _ => none)
  | _ => none
theorem insAt_ok {n : Nat} {y : V} {c m : Nat} {vs : List (Option VV)} (hk : Hk K g.adr w h H) (r : RV K g.adr w H (.ref n) y) (e : insAt h n = some (c, m, vs)) :
    ∃ a dx ys, y = .ref a ∧ Slt H a (g.adr c) dx ys ∧ RVo K g.adr w H vs ys ∧ w.phi[n]? = some (some a) ∧ w.phi[m]? = some (some dx) ∧ h[n]? = some (.ins c m vs) ∧ (vs = [] → H a = some (.ins (g.adr c) dx [])) ∧ n ≠ m := by
  unfold insAt at e
  split at e
  · rename_i c' m' vs' e1
    split at e
    · rename_i b e2
      split at e
      · rename_i hb
        cases e
        obtain ⟨a, rfl, hn, ro⟩ := ref_obj hk r e1 (fun z => nomatch z)
        obtain ⟨dx, ⟨hm1, hm2⟩, hx⟩ := ro
        obtain ⟨d2, hd2⟩ := hk.has m _ e2 (fun z => nomatch z)
        have ed := hm2 d2 hd2
        subst ed
        obtain ⟨o2, q1, q2⟩ := hk.obj m d2 hd2
        rw [e2] at q1
        cases q1
        have nm : n ≠ m := fun z => by
          subst z
          rw [e1] at e2
          cases e2
        rcases hx with ⟨hv, hH⟩ | ⟨hv, ys, hH, hr⟩
        · subst hv
          exact ⟨a, d2, [], rfl, .inl ⟨hH, rfl⟩, by simp [RVo], hn, hd2, e1, fun _ => hH, nm⟩
        · have : b = true := by
            cases vs with
            | nil => exact absurd rfl hv
            | cons _ _ => simpa using hb
          subst this
          exact ⟨a, d2, ys, rfl, .inr ⟨hH, q2⟩, hr, hn, hd2, e1, fun z => absurd z hv, nm⟩
      · cases e
    · cases e
  · cases e
/-- an object of the small heap is written, whatever it is -/
theorem Hk.refsetS {a : Addr} {o : HO} {vo : VO} (k : Hk K g.adr w h H) (hn : w.phi[n]? = some (some a)) (r : RO K g.adr w (upd H a o) vo a) (hs : Spc w a o) : Hk K g.adr w (h.set n vo) (upd H a o) where
  len := by rw [List.length_set]; exact k.len
  inj := k.inj
  obj := fun m b hm => by
    have se : Sees w H w (upd H a o) := refset_sees hn
    obtain ⟨u, h1, h3⟩ := k.obj m b hm
    by_cases e : m = n
    · subst e
      rw [hn] at hm
      cases hm
      refine ⟨vo, ?_, r⟩
      rw [List.getElem?_set_self (List.getElem?_eq_some_iff.mp h1).1]
    · refine ⟨u, by rw [List.getElem?_set_ne (Ne.symm e)]; exact h1, RO.mono se u b (fun z q => ?_) h3⟩
      rw [upd_ne (show b ≠ a from fun z => e (k.inj m n a (by rw [← z]; exact hm) hn))]
      exact q
  has := fun m u hm hu => by
    by_cases e : m = n
    · subst e
      exact ⟨a, hn⟩
    · rw [List.getElem?_set_ne (Ne.symm e)] at hm
      exact k.has m u hm hu
  prot := fun b hb => by
    obtain ⟨h1, h2⟩ := k.prot b hb
    refine ⟨?_, h2⟩
    by_cases e : b = a
    · rw [e, upd_same]
      simp
    · rw [upd_ne e]
      exact h1
  own := k.own
  ownI := k.ownI
  spc := fun b u q => by
    by_cases e : b = a
    · subst e
      rw [upd_same] at q
      cases q
      exact hs
    · rw [upd_ne e] at q
      exact k.spc b u q
/-- a slot is stored -/
theorem hk_slot {a dx : Addr} {i : Nat} {v : VV} {y : V} {vs : List (Option VV)} {ys : List (Option V)} (k : Hk K g.adr w h H) (hn : w.phi[n]? = some (some a)) (hm : w.phi[m]? = some (some dx)) (hh : h[n]? = some (.ins c m vs)) (nm : n ≠ m) (hs : Slt H a (g.adr c) dx ys)
    (rs : RVo K g.adr w H vs ys) (r : RV K g.adr w H v y) (e0 : vs = [] → H a = some (.ins (g.adr c) dx [])) : ExtS w H w (slH H a (g.adr c) dx (putS i y ys)) ∧ Hk K g.adr w ((h.set m (.sub true)).set n (.ins c m (putSO i v vs))) (slH H a (g.adr c) dx (putS i y ys)) ∧ ∀ {sl : Sl} {σ : L2.St}, RF K g w H sl σ → RF K g w (slH H a (g.adr c) dx (putS i y ys)) sl σ := by
  unfold slH
  have k1 : Hk K g.adr w (h.set m (.sub true)) (upd H dx (.xd [])) := k.refsetO hm upd_same
  have s1 : Sees w H w (upd H dx (.xd [])) := refset_sees hm
  have s2 : Sees w (upd H dx (.xd [])) w (upd (upd H dx (.xd [])) a (SlO a (g.adr c) dx (putS i y ys))) := refset_sees hn
  have len1 := (List.getElem?_eq_some_iff.mp hm).1
  refine ⟨(refset_ext k hm).trans (refset_ext k1 hn), k1.refsetS hn ⟨dx, ⟨len1, fun b hb => by rw [hm] at hb; cases hb; rfl⟩, .inr ⟨?_, _, upd_same, RVo.put i (RVo.mono (s1.trans s2) _ _ rs) (RV.mono (s1.trans s2) _ _ r)⟩⟩ (fun ⟨q, z⟩ => absurd z slO_not_code), fun f => (f.refset k hm).refset k1 hn⟩
  intro z
  have := congrArg List.length z
  unfold putSO at this
  simp only [List.length_set, List.length_append, List.length_replicate, List.length_nil] at this
  omega
end

/-! ### e.f -/
def attrM (st : List (Nat × Nat)) (a : ME) : ME := fun sv h => (a sv h).bind fun x h1 => match x with
  | .ref n => (match insAt h1 n with
    | some (c, _, vs) => (match st.lookup c with
      | some i => (match vs[i]? with
        | some (some v) => .ok v h1
        | _ => .bad)
      | none => .bad)
    | none => .bad)
  | _ => .bad
section
variable {X : Cx} {g : Gx} {W : WX} {e o value : Expr} {es : List Expr} {m mo me : ME} {ma : MA} {pos pos' apos p : Pos} {f x : Str}
theorem re_attr {st : List (Nat × Nat)} (T : SlT X.K g f st) (he : RE X g W e m) (hb : attributeBase e f X.env (eval e X.env) = eval e X.env := by rfl) : RE X g W (.Attribute e f pos) (attrM st m) :=
  pe_imp (pe_sl he hb) fun σ H Q ⟨w, sv, h, rs, hk, pp⟩ => seqG' rs hk pp fun w1 H1 h1 v y e1 rs1 k1 r1 p1 => by
    split at p1
    · rename_i n
      split at p1
      · rename_i c mm vs ei
        split at p1
        · rename_i i el
          split at p1
          · rename_i u eu
            obtain ⟨a, dx, ys, rfl, hs, ro, _⟩ := insAt_ok k1 r1 ei
            obtain ⟨cc, pd, sd⟩ := T c i el
            obtain ⟨z, hz, rz⟩ := ro.get eu
            exact ⟨a, _, dx, pd, ys, i, z, rfl, hs, cc, sd, hz, Post.here p1 k1 rz⟩
          · exact p1.elim
        · exact p1.elim
      · exact p1.elim
    · exact p1.elim

/-! ### o.f = e -/
def setSlM (st : List (Nat × Nat)) (mo me : ME) : MS := fun sl h => (me (view sl) h).toS sl fun v h1 => (mo (view sl) h1).toS sl fun x h2 => match x with
  | .ref n => (match insAt h2 n with
    | some (c, m, vs) => (match st.lookup c with
      | some i => .nx sl ((h2.set m (.sub true)).set n (.ins c m (putSO i v vs)))
      | none => .bad)
    | none => .bad)
  | _ => .bad
theorem rs_attr {st : List (Nat × Nat)} (T : SlT X.K g f st) (he : RE X g W value me) (ho : RE X g W o mo) (hs : swapsWith value (some (.Attribute o f pos')) pos.line X.env = pure false := by rfl) : RS X g W (.Assign [.Attribute o f pos'] value pos) (setSlM st mo me) :=
  ps_imp (ps_sl ho he hs) fun D σ H ⟨w, sl, h, fr, k, pp⟩ => by
    refine seqS fr k pp fun w1 H1 h1 v y e1 f1 k1 r1 p1 => ?_
    refine seqS f1 k1 p1 fun w2 H2 h2 v2 y2 e2 f2 k2 r2 p2 => ?_
    split at p2
    · rename_i n
      split at p2
      · rename_i c mm vs ei
        split at p2
        · rename_i i el
          obtain ⟨a, dx, ys, rfl, hs, ro, hn, hm, hh, h0, nm⟩ := insAt_ok k2 r2 ei
          obtain ⟨cc, pd, sd⟩ := T c i el
          obtain ⟨q1, q2, q3⟩ := hk_slot (i := i) k2 hn hm hh nm hs ro (RV.mono e2.sees _ _ r1) h0
          exact ⟨a, _, dx, pd, ys, i, rfl, hs, cc, sd, p2 w2 _ σ q1 q2 (q3 f2)⟩
        · exact p2.elim
      · exact p2.elim
    · exact p2.elim

/-! ### C(e, ..) -/
def makeM (c : Nat) (mf : MF) (a : MA) : ME := fun sv h => (a sv h).bind fun vs h1 => (mf (.ref (h1.length + 1) :: vs) (h1 ++ [.sub false, .ins c h1.length []])).bind fun r h2 => match r with
  | .non => .ok (.ref (h1.length + 1)) h2
  | _ => .bad
theorem run_makeS {CX : CXT} {k : Nat} {f C : Addr} {fd : FuncData} {ps : List Str} {sp : Sp} {E : L2.St → XK} {pins : List (Addr × Obj)} {σ : L2.St} {H : Hp} {s : Shared} {Q : VK} {us : List Value} {vs : List V} (M : Mk X.K C f) (F : FnOk X.prog X.w X.K X.mg X.base CX k f fd ps sp) (hr : Room (k + 1) X.A) (hb : Binds X.K fd ps [])
    (hx : PassesAt CX X σ (E σ)) (I : Inv X pins σ H s) (r : Vals vs us)
    (h : ∀ x dx, H x = none → H dx = none → dx ≠ x → sp (.ref x :: vs) (upd (upd H dx (.own x)) x (.ins C dx [])) (fun v H2 => v = .non ∧ Q (.ref x) H2) (E σ)) :
    wpAny (model X.prog X.w) X.A (call (.ref C) us) (EP X pins σ Q) X.xe s := by
  have hq := h (s.heap.objs.size + 1) s.heap.objs.size (I.hok.fresh (Nat.le_succ _)) (I.hok.fresh (Nat.le_refl _)) (Nat.ne_of_lt (Nat.lt_succ_self _))
  have I2 := Inv.made (C := C) I
  have r2 : Vals (V.ref (s.heap.objs.size + 1) :: vs) (Value.ref (s.heap.objs.size + 1) :: us) := .cons rfl r
  have hl : (Value.ref (s.heap.objs.size + 1) :: us).length = ps.length := by
    have e := r2.length
    rw [F.len _ _ _ _ hq] at e
    exact e.symm
  have b := hb _ (Value.ref (s.heap.objs.size + 1) :: us) I2.kIn (by rw [List.append_nil]; exact hl)
  rw [List.append_nil] at b
  refine wpAny_call (make_map (f := f) I.kIn M.makes M.init (beq_iff_eq.mp M.fn) (codeAny_mono (F.run _ X.stack _ _ ⟨Value.ref (s.heap.objs.size + 1) :: us, []⟩ (Value.ref (s.heap.objs.size + 1) :: us) _ _ (E σ) (hr.make C us [])
    (I2.env0.make C us []) b r2 hq) fun r s' hq' => ?_))
  cases r with
  | error e => exact hx pins _ _ e s' I2 hq'
  | ok fl =>
    cases fl with
    | ret u =>
      obtain ⟨v, H', I3, rv, ev, q3⟩ := I2.after hq'
      subst ev
      exact ⟨rv, ⟨V.ref (s.heap.objs.size + 1), H', I3, rfl, q3⟩⟩
    | next => exact False.elim hq'
    | brk => exact False.elim hq'
    | cont => exact False.elim hq'
theorem pe_makeS {CX : CXT} {k : Nat} {f C : Addr} {fd : FuncData} {ps : List Str} {sp : Sp} {E : L2.St → XK} {t : TA} (M : Mk X.K C f) (F : FnOk X.prog X.w X.K X.mg X.base CX k f fd ps sp) (hr : Room (k + 1) X.A) (hg : Gl X x) (hm : X.mg x = some (.ref C)) (hb : Binds X.K fd ps [])
    (hx : ∀ σ, PassesAt CX X σ (E σ)) (ha : PA X (e :: es) t) (hdb : (x == ("__debug__" : Str)) = false := by decide) (he : starEach (e :: es) X.env = (false, eval e X.env) :: starEach es X.env := by rfl) (hpl : (backTo pos (starEach es X.env)).any (·.1) = false := by rfl) :
    PE X (.Call (.Name x p) (e :: es) [] pos) (fun σ H Q => t σ H fun vs H1 => ∀ x dx, H1 x = none → H1 dx = none → dx ≠ x → sp (.ref x :: vs) (upd (upd H1 dx (.own x)) x (.ins C dx [])) (fun v H2 => v = .non ∧ Q (.ref x) H2) (E σ)) := by
  refine ⟨fun pins s σ H Q I h => ?_⟩
  refine wpAny_Call_Name_kw (ld_glob I hg hm ?_ hdb)
  refine PySem.W.callWith_K (h₀ := X.base) I.ok.mod.kin M.kp (thn (ha.run pos pins s σ H _ I h) fun us s1 ⟨vs, H1, I1, r, q⟩ => ⟨I1.kIn, ?_⟩) he hpl
  exact run_makeS M F hr hb (hx σ) I1 r q
theorem re_make {c j k : Nat} {fi : Addr} {ps : List Str} {mf : MF} (F : OkF X.prog X.w X.K X.mg g j fi ps mf) (M : Mk X.K (g.adr c) fi) (hr : Room k X.A) (hm : X.mg x = some (.ref (g.adr c))) (tk : Takes X W) (ha : RA X g W (e :: es) ma) (hj : j + 1 ≤ k := by omega) (hg : Gl X x := by rfl)
    (hdb : (x == ("__debug__" : Str)) = false := by decide) (he : starEach (e :: es) X.env = (false, eval e X.env) :: starEach es X.env := by rfl) (hpl : (backTo pos (starEach es X.env)).any (·.1) = false := by rfl) :
    RE X g W (.Call (.Name x p) (e :: es) [] pos) (makeM c mf ma) := by
  obtain ⟨fd, F, B, kp, _⟩ := F
  refine pe_imp (pe_makeS (E := WE W) M (F X.base) (hr.mono hj) hg hm B (fun σ => passAt tk σ) ha hdb he hpl) fun σ H Q ⟨w, sv, h, rs, hk, pp⟩ => ?_
  refine seqG' rs hk pp fun w1 H1 h1 vs ys e1 rs1 k1 r1 p1 => fun x dx hx hdx ne => ?_
  have ex1 := Ext.push (o := .own x) k1 hdx
  have kk1 : Hk X.K g.adr (w1.push dx) (h1 ++ [.sub false]) (upd H1 dx (.own x)) := Hk.push k1 hdx ⟨x, upd_same⟩
  have hx2 : (upd H1 dx (.own x)) x = none := by rw [upd_ne (Ne.symm ne)]; exact hx
  have ex2 := Ext.push (o := .ins (g.adr c) dx []) kk1 hx2
  have el : (h1 ++ [VO.sub false]).length = h1.length + 1 := by simp
  have kk2 : Hk X.K g.adr ((w1.push dx).push x) ((h1 ++ [.sub false]) ++ [.ins c h1.length []]) (upd (upd H1 dx (.own x)) x (.ins (g.adr c) dx [])) := Hk.push kk1 hx2 ⟨dx, ⟨by
    unfold Wd.push
    simp only [List.length_append, List.length_cons, List.length_nil]
    have := k1.len
    omega, fun b hb => by
    unfold Wd.push at hb
    rw [List.append_assoc, List.getElem?_append_right (by rw [k1.len]; exact Nat.le_refl _), k1.len] at hb
    simp at hb
    exact hb.symm⟩, .inl ⟨rfl, upd_same⟩⟩
  have rx : RV X.K g.adr ((w1.push dx).push x) (upd (upd H1 dx (.own x)) x (.ins (g.adr c) dx [])) (.ref (h1.length + 1)) (.ref x) := by
    have := ref_new (H' := upd (upd H1 dx (.own x)) x (.ins (g.adr c) dx [])) (q := x) kk1
    rw [el] at this
    exact this
  have ex := ex1.trans ex2
  rw [List.append_assoc] at kk2
  refine ⟨_, _, .ref (h1.length + 1) :: vs, kk2, ?_, ?_⟩
  · simp only [RVs]
    exact ⟨_, ys, rfl, rx, RVs.mono ex.sees _ _ r1⟩
  · simp only [List.cons_append, List.nil_append] at p1 ⊢
    cases q : mf (.ref (h1.length + 1) :: vs) (h1 ++ [.sub false, .ins c h1.length []]) with
    | ok v h2 =>
      rw [q] at p1
      simp only [Out.bind] at p1
      split at p1
      · intro w' H' y e3 k3 r3
        simp only [relV, RV] at r3
        exact ⟨r3, p1 w' H' (.ref x) (ex.trans e3) k3 (RV.mono e3.sees _ _ rx)⟩
      · exact p1.elim
    | exc xx h2 =>
      rw [q] at p1
      exact fun w' H' cls d e3 k3 r3 => p1 w' H' cls d (ex.trans e3) k3 r3
    | bad => rw [q] at p1; exact p1.elim

/-! ### o.m(e, ..) -/
def methM (c : Nat) (mf : MF) (mo : ME) (a : MA) : ME := fun sv h => (mo sv h).bind fun x h1 => match x with
  | .ref n => (match insAt h1 n with
    | some (c', _, _) => if c' == c then (a sv h1).bind fun vs h2 => mf (x :: vs) h2 else .bad
    | none => .bad)
  | _ => .bad
theorem pe_methSlS {CX : CXT} {k : Nat} {C fm : Addr} {fd : FuncData} {ps : List Str} {sp : Sp} {E : L2.St → XK} {nm : Str} {ta : TE} {t : TA} {pl : Sem Bool} (he : PE X o ta) (c : SCls X.K C) (hm : Meth X.K C nm fm) (F : FnOk X.prog X.w X.K X.mg X.base CX k fm fd ps sp) (hr : Room k X.A) (hb : Binds X.K fd ps [])
    (hx : ∀ σ, PassesAt CX X σ (E σ)) (ha : PA X (e :: es) t) (hst : starEach (e :: es) X.env = (false, eval e X.env) :: starEach es X.env := by rfl) (hpl : (backTo pos (starEach es X.env)).any (·.1) = false := by rfl)
    (ht : eval (.Call (.Attribute o nm apos) (e :: es) [] pos) X.env = (do
      let ov ← eval o X.env
      standAt apos.atName
      let (f, first) ← holding [ov] (getMethod ov nm pl)
      callWith pos f first (backTo pos (starEach (e :: es) X.env)) (backToKw pos (keywordEach [] X.env))) := by rfl) :
    PE X (.Call (.Attribute o nm apos) (e :: es) [] pos) (fun σ H Q => ta σ H fun x H1 => ∃ a dx vs, x = .ref a ∧ Slt H1 a C dx vs ∧ t σ H1 fun ws H2 => sp (x :: ws) H2 Q (E σ)) := by
  refine ⟨fun pins s σ H Q I h => ?_⟩
  refine PySem.W.methodCall_KW (pl := pl) (thn (he.run pins s σ H _ I h) fun u s1 ⟨x, H1, I1, rx, a, dx, vs, ex, hsl, q⟩ => ?_) ht
  subst ex
  obtain rfl : u = Value.ref a := rx
  refine getmethsl_ok I1 hsl c hm ?_
  refine PySem.W.callWith_K (first := [.ref a]) (h₀ := X.base) I.ok.mod.kin hm.kp (thn (ha.run pos pins s1 σ H1 _ I1 q) fun us s2 ⟨ws, H2, I2, r, q2⟩ => ⟨I2.kIn, ?_⟩) hst hpl
  exact run_fnS (us := .ref a :: us) (vs := .ref a :: ws) F hr hb (hx σ) I2 (.cons rfl r) q2
theorem re_meth {c j k : Nat} {fm : Addr} {ps : List Str} {mf : MF} {nm : Str} {pl : Sem Bool} (F : OkF X.prog X.w X.K X.mg g j fm ps mf) (hm : Meth X.K (g.adr c) nm fm) (cc : SCls X.K (g.adr c)) (hr : Room k X.A) (tk : Takes X W) (ho : RE X g W o mo) (ha : RA X g W (e :: es) ma) (hj : j ≤ k := by omega)
    (hst : starEach (e :: es) X.env = (false, eval e X.env) :: starEach es X.env := by rfl) (hpl : (backTo pos (starEach es X.env)).any (·.1) = false := by rfl)
    (ht : eval (.Call (.Attribute o nm apos) (e :: es) [] pos) X.env = (do
      let ov ← eval o X.env
      standAt apos.atName
      let (f, first) ← holding [ov] (getMethod ov nm pl)
      callWith pos f first (backTo pos (starEach (e :: es) X.env)) (backToKw pos (keywordEach [] X.env))) := by rfl) :
    RE X g W (.Call (.Attribute o nm apos) (e :: es) [] pos) (methM c mf mo ma) := by
  obtain ⟨fd, F, B, kp, _⟩ := F
  refine pe_imp (pe_methSlS (E := WE W) (pl := pl) ho cc hm ((F X.base).mono hj) hr B (fun σ => passAt tk σ) ha hst hpl ht) fun σ H Q ⟨w, sv, h, rs, hk, pp⟩ => ?_
  refine seqG' rs hk pp fun w1 H1 h1 v y e1 rs1 k1 r1 p1 => ?_
  split at p1
  · rename_i n
    split at p1
    · rename_i c' mm vs ei
      split at p1
      · rename_i hc
        have : c' = c := by simpa using hc
        subst this
        obtain ⟨a, dx, ys, rfl, hs, _⟩ := insAt_ok k1 r1 ei
        refine ⟨a, dx, ys, rfl, hs, ?_⟩
        refine seqG' rs1 k1 p1 fun w2 H2 h2 us zs e2 rs2 k2 r2 p2 => ?_
        refine ⟨w2, h2, .ref n :: us, k2, ?_, ?_⟩
        · simp only [RVs]
          exact ⟨_, zs, rfl, RV.mono e2.sees _ _ r1, r2⟩
        · cases q : mf (.ref n :: us) h2 with
          | ok v h2 => rw [q] at p2; exact p2
          | exc x h2 => rw [q] at p2; exact p2
          | bad => rw [q] at p2; exact p2
      · exact p1.elim
    · exact p1.elim
  · exact p1.elim
end

/-! ### isinstance(x, C) -/
def isiCF (cs : List Nat) (kt : List (Nat × Nat × Bool)) : VF := fun xs h => match xs with
  | [x, .adr t] => if cs.contains t then (match tyOf h x with
    | some _ => .ok (.bl false) h
    | none => (match x with
      | .ref n => (match insAt h n with
        | some (c, _, _) => (match kt.find? fun p => p.1 == c && p.2.1 == t with
          | some p => if cs.contains c then .ok (.bl p.2.2) h else .bad
          | none => .bad)
        | none => .bad)
      | _ => .bad)) else .bad
  | _ => .bad
theorem isiCS {K : PySem.W.Frag} {g : Gx} {cs : List Nat} {kt : List (Nat × Nat × Bool)} (T : ClT K g cs) (k : kitsB K g.adr kt = true) : CallS K g (rIsiY K) (isiCF cs kt) := by
  intro w h H σ W Q xs vs hk r p
  unfold isiCF at p
  split at p
  · rename_i x t
    split at p
    · rename_i ht
      obtain ⟨y, y', rfl, r1, r2⟩ := r.two
      simp only [RV] at r2
      subst r2
      split at p
      · rename_i u e
        exact ⟨y, _, _, _, _, rfl, .own _, tyOf_ok hk r1 e, (T t ht).k u, post_bl p hk⟩
      · split at p
        · rename_i n
          split at p
          · rename_i c mm us ei
            split at p
            · rename_i pr ep
              split at p
              · rename_i hc
                obtain ⟨a, dx, ys, rfl, hs, _⟩ := insAt_ok hk r1 ei
                have h1 := List.find?_some ep
                have h2 := List.mem_of_find?_eq_some ep
                have h3 := of_decide_eq_true (List.all_eq_true.mp k _ h2)
                simp only [Bool.and_eq_true, beq_iff_eq] at h1
                rw [h1.1, h1.2] at h3
                exact ⟨_, _, _, _, _, rfl, .own _, .sl hs (T c hc).c (T c hc).i, h3, post_bl p hk⟩
              · exact p.elim
            · exact p.elim
          · exact p.elim
        · exact p.elim
    · exact p.elim
  · exact p.elim
end Mv
set_option Elab.async false
set_option linter.all false
set_option maxRecDepth 100000
/-! Mv, part AT: several slots stored at once; what is never come to. -/
namespace Mv
open PySem PySem.Spec PyProof.Rows L2 SlX

/-! ### what the proof never comes to; the word tells where it would be -/
def badE (_ : String) : ME := fun _ _ => .bad
def badT (_ : String) : MT := fun _ _ => .bad
def badA (_ : String) : MA := fun _ _ => .bad
def badS (_ : String) : MS := fun _ _ => .bad
section
variable {X : Cx} {g : Gx} {W : WX} {l : String}
theorem re_bad {e : Expr} : RE X g W e (badE l) := ⟨fun pins s σ H Q I ⟨_, _, _, _, _, p⟩ => p.elim⟩
theorem rt_bad {e : Expr} : RT X g W e (badT l) := ⟨fun pins s σ H Q I ⟨_, _, _, _, _, p⟩ => p.elim⟩
theorem rs_bad {st : Stmt} : RS X g W st (badS l) := ⟨fun pins s σ H D I ⟨_, _, _, _, _, p⟩ => p.elim⟩
end

/-! ### o.f, o.g, .. = e -/
def setSlsGo : List (List (Nat × Nat) × ME) → List VV → MS
  | [], [] => fun sl h => .nx sl h
  | t :: ts, v :: vs => fun sl h => (t.2 (view sl) h).toS sl fun x h1 => match x with
    | .ref n => (match insAt h1 n with
      | some (c, m, us) => (match t.1.lookup c with
        | some i => setSlsGo ts vs sl ((h1.set m (.sub true)).set n (.ins c m (putSO i v us)))
        | none => .bad)
      | none => .bad)
    | _ => .bad
  | _, _ => fun _ _ => .bad
def setSlsM (ts : List (List (Nat × Nat) × ME)) (me : ME) : MS := fun sl h => (me (view sl) h).toS sl fun v h1 => match v with
  | .tup vs => if vs.length == ts.length then setSlsGo ts vs sl h1 else .bad
  | _ => .bad
section
variable {X : Cx} {g : Gx} {W : WX} {e o value : Expr} {es : List Expr} {m mo me : ME} {ma : MA} {pos pos' apos p tpos : Pos} {f x : Str} {kk : Nat}
/-- o.f as a target -/
def gAttr (K : PySem.W.Frag) (f : Str) (ta : TE) : TG := fun v σ H Q => ta σ H fun x H1 => ∃ a C dx p vs i, x = .ref a ∧ Slt H1 a C dx vs ∧ SCls K C ∧ Slot1 K C f p i ∧ Q σ (slH H1 a C dx (putS i v vs))
theorem pg_attr {ta : TE} (ho : PE X o ta) (ha : ∀ v, assign (.Attribute o f pos) X.env v = (do
      let ov ← holding [v] (eval o X.env)
      standAt pos.atName
      holding [v, ov] (setAttr ov f v)
      release [v, ov] []) := by intro _; rfl) : PG X (.Attribute o f pos) (gAttr X.K f ta) := by
  refine ⟨fun pins s σ H v u Q I r h => ?_⟩
  rw [ha]
  refine wpAny_bind (wpAny_holding (thn (ho.run pins s σ H _ I h) fun ov s1 ⟨x, H1, I1, r1, a, C, dx, p, vs, i, ex, hsl, c, t, q⟩ => ?_))
  subst ex
  obtain rfl : ov = Value.ref a := r1
  refine wpAny_bind (wpAny_standAt (wpAny_bind (wpAny_holding (setslot_ok I1 hsl c t r fun s2 I2 => ?_))))
  exact wpAny_release ⟨σ, _, I2, q⟩
/-- several of them -/
def tGo (K : PySem.W.Frag) (g : Gx) (W : WX) (ts : List (List (Nat × Nat) × ME)) : TGs := fun vs σ H Q => ∃ w sl h xs, RF K g w H sl σ ∧ Hk K g.adr w h H ∧ RVs K g.adr w H xs vs ∧ PostS K g w H ⟨Q, fun _ _ => False, fun _ _ => False, fun _ _ => False⟩ W (setSlsGo ts xs sl h)
abbrev RTg (X : Cx) (g : Gx) (W : WX) (es : List Expr) (ts : List (List (Nat × Nat) × ME)) : Prop := PGs X es (tGo X.K g W ts)
theorem pgs_imp2 {es : List Expr} {t t' : TGs} (h : PGs X es t) (i : ∀ vs σ H Q, t' vs σ H Q → t vs σ H Q) : PGs X es t' := ⟨fun pins s σ H vs us Q I r q => h.run pins s σ H vs us Q I r (i vs σ H Q q)⟩
theorem rtg_nil : RTg X g W [] [] := pgs_imp2 pgs_nil fun vs σ H Q ⟨w, sl, h, xs, f, k, r, p⟩ => by
  cases xs with
  | nil =>
    simp only [RVs] at r
    exact ⟨r, p w H σ (ExtS.refl _ _) k f⟩
  | cons x xs => exact p.elim
theorem rtg_cons {st : List (Nat × Nat)} {ts : List (List (Nat × Nat) × ME)} (T : SlT X.K g f st) (ho : RE X g W o mo) (hr : RTg X g W es ts) (ha : ∀ v, assign (.Attribute o f pos) X.env v = (do
      let ov ← holding [v] (eval o X.env)
      standAt pos.atName
      holding [v, ov] (setAttr ov f v)
      release [v, ov] []) := by intro _; rfl) (hs : (assignEach (.Attribute o f pos :: es) X.env).map (·.2) = assign (.Attribute o f pos) X.env :: (assignEach es X.env).map (·.2) := by rfl) : RTg X g W (.Attribute o f pos :: es) ((st, mo) :: ts) :=
  pgs_imp2 (pgs_cons (pg_attr ho ha) hr hs) fun vs σ H Q ⟨w, sl, h, xs, fr, k, r, p⟩ => by
    cases xs with
    | nil => exact p.elim
    | cons v us =>
      simp only [RVs] at r
      obtain ⟨y, ys, rfl, r1, r2⟩ := r
      refine ⟨y, ys, rfl, ?_⟩
      refine seqS fr k p fun w1 H1 h1 x z e1 f1 k1 rz p1 => ?_
      split at p1
      · rename_i n
        split at p1
        · rename_i c mm vs ei
          split at p1
          · rename_i i el
            obtain ⟨a, dx, zs, rfl, hsl, ro, hn, hm, hh, h0, nm⟩ := insAt_ok k1 rz ei
            obtain ⟨cc, pd, sd⟩ := T c i el
            obtain ⟨q1, q2, q3⟩ := hk_slot (i := i) k1 hn hm hh nm hsl ro (RV.mono e1.sees _ _ r1) h0
            exact ⟨a, _, dx, pd, zs, i, rfl, hsl, cc, sd, w1, sl, _, us, q3 f1, q2, RVs.mono (e1.trans q1).sees _ _ r2, PostS.mono q1 p1⟩
          · exact p1.elim
        · exact p1.elim
      · exact p1.elim
theorem rs_attrs {ts : List (List (Nat × Nat) × ME)} {n : Nat} (hc : X.calm = true) (he : RE X g W value me) (ht : RTg X g W es ts) (hn : (assignEach es X.env).length = n := by rfl) (hl : ts.length = n := by rfl) (hst : (assignEach es X.env).findIdx? (·.1) = none := by rfl)
    (hs : swapsWithSole [.Tuple es kk tpos] value pos.line X.env = pure false := by rfl) (hw : swappedStores [.Tuple es kk tpos] value X.env = pure none := by rfl)
    (h1 : (assignEach [.Tuple es kk tpos] X.env).map (·.2) = [assign (.Tuple es kk tpos) X.env] := by rfl) : RS X g W (.Assign [.Tuple es kk tpos] value pos) (setSlsM ts me) :=
  ps_imp (ps_asg he (pg_tup hc ht hn hst) hs hw h1) fun D σ H ⟨w, sl, h, fr, k, pp⟩ => by
    refine seqS fr k pp fun w1 H1 h1 v y e1 f1 k1 r1 p1 => ?_
    split at p1
    · rename_i vs
      split at p1
      · rename_i hlen
        have hlen : vs.length = ts.length := by simpa using hlen
        obtain ⟨a, ys, rfl, r2, st⟩ := RV.tup_st r1
        refine ⟨a, ys, rfl, st w1 H1 (Sees.refl _ _), by rw [← r2.length, hlen, hl], w1, sl, h1, vs, f1, k1, r2, ?_⟩
        have key : ∀ (ts : List (List (Nat × Nat) × ME)) (vs : List VV) (sl : Sl) (h : VH), (∃ sl1 h1, setSlsGo ts vs sl h = .nx sl1 h1) ∨ (∃ x sl1 h1, setSlsGo ts vs sl h = .exc x sl1 h1) ∨ setSlsGo ts vs sl h = .bad := by
          intro ts
          induction ts with
          | nil =>
            intro vs sl h
            cases vs with
            | nil => exact .inl ⟨_, _, rfl⟩
            | cons _ _ => exact .inr (.inr rfl)
          | cons t ts ih =>
            intro vs sl h
            cases vs with
            | nil => exact .inr (.inr rfl)
            | cons v vs =>
              unfold setSlsGo
              cases t.2 (view sl) h with
              | ok x h1 =>
                simp only [Out.toS]
                split
                · split
                  · split
                    · exact ih vs sl _
                    · exact .inr (.inr rfl)
                  · exact .inr (.inr rfl)
                · exact .inr (.inr rfl)
              | exc x h1 => exact .inr (.inl ⟨_, _, _, rfl⟩)
              | bad => exact .inr (.inr rfl)
        rcases key ts vs sl h1 with ⟨s2, h2, e⟩ | ⟨x, s2, h2, e⟩ | e
        · rw [e] at p1 ⊢; exact p1
        · rw [e] at p1 ⊢; exact p1
        · rw [e] at p1; exact p1.elim
      · exact p1.elim
    · exact p1.elim
end
end Mv
set_option Elab.async false
set_option linter.all false
set_option maxRecDepth 100000
/-! Mv, part AU: tuples that are known to be plain: .index; tuple(d); join; str(i). -/
namespace Mv
open PySem PySem.Spec PyProof.Rows L2

/-! ### tuples that are known to be plain -/
section
variable {X : Cx} {g : Gx} {W : WX} {e o : Expr} {es : List Expr} {m mo me : ME} {ma : MA} {pos apos cpos p : Pos} {t : TA} {te to : TE}
theorem pe_ktup {x1} (h : PA X es t) : PE X (.Tuple es x1 pos) (fun σ H Q => t σ H fun xs H1 => xs.length ≤ sizeLine ∧ ∀ q ob, H1 q = none → ob.dict = none → Q (.ref q) (upd H1 q (.frz ob (.tup xs)))) := by
  refine ⟨fun pins s σ H Q I hq => ?_⟩
  refine wpAny_Tuple_spliced (thn (h.run pos pins s σ H _ I hq) fun us s1 ⟨xs, H1, I1, r, z, q⟩ => ⟨by rw [← r.length]; exact z, ?_⟩)
  have hf : H1 s1.heap.objs.size = none := I1.hok.fresh (Nat.le_refl _)
  refine ⟨.ref s1.heap.objs.size, upd H1 s1.heap.objs.size (.frz { cls := .type "tuple", data := .seq us.toArray } (.tup xs)), I1.laid (t' := s1.toks) (fun b u e => Heap.get?_push_of_some _ e) (Nat.le_refl _) ?_, rfl, q _ _ hf rfl⟩
  exact ⟨Heap.get?_push_size _ rfl, z, us, r, ⟨_, Heap.get?_push_size _ rfl, rfl, _, rfl⟩⟩
theorem post_newk {K : PySem.W.Frag} {w : Wd} {H : Hp} {σ : L2.St} {h : VH} {Q : VK} {xs : List VV} {ys : List V} {q : Addr} {ob : Obj} (po : Post K g (relV K g) w H σ Q W (.ok (.ktu xs) h)) (k : Hk K g.adr w h H) (r : RVs K g.adr w H xs ys) (hp : H q = none) (hd : ob.dict = none) : Q (.ref q) (upd H q (.frz ob (.tup ys))) :=
  po w _ _ (Ext.grow k hp) (Hk.grow k hp) (by
    simp only [relV, RV]
    exact ⟨q, ys, rfl, .inr ⟨ob, upd_same, hd, k.fresh hp⟩, RVs.mono (Ext.grow k hp).sees _ _ r⟩)
def ktupM (a : MA) : ME := fun sv h => (a sv h).bind fun xs h1 => if fits xs.length then .ok (.ktu xs) h1 else .bad
theorem re_ktup {x1} (ha : RA X g W es ma) : RE X g W (.Tuple es x1 pos) (ktupM ma) :=
  pe_imp (pe_ktup ha) fun σ H Q ⟨w, sv, h, rs, hk, p⟩ => by
    refine seqG' rs hk p fun w1 H1 h1 v y e1 rs1 k1 r1 p1 => ?_
    split at p1
    · rename_i hf
      exact ⟨by rw [← RVs.length r1]; exact fits_le hf, fun q ob hq hd => post_newk p1 k1 r1 hq hd⟩
    · exact p1.elim
/-- tuple(a list), known to be plain -/
def rTupleK (K : PySem.W.Frag) : List V → Hp → VK → Prop := fun xs H Q => ∃ p ys, xs = [.ref p] ∧ ((SqL K H p ys ∧ ∀ l ob, H l = none → ob.dict = none → Q (.ref l) (upd H l (.frz ob (.tup ys)))) ∨ (SqT K H p ys ∧ Q (.ref p) H))
theorem call_tupleK : CallR X (.type "tuple") (rTupleK X.K) := by
  intro pins s σ H xs us Q I r h
  obtain ⟨p, ys, rfl, h⟩ := h
  obtain ⟨u, rfl, rx⟩ := vals1 r
  cases rx
  rcases h with ⟨hq, q⟩ | ⟨hq, q⟩
  · obtain ⟨its, r', pl, hz⟩ := I.list hq
    have hlen := r'.length
    refine call_tuple_list pl.isList (fun h' kp => ?_) (by simp only [List.size_toArray] <;> omega)
    have I1 : Inv X pins σ H { s with heap := h' } := I.kept (t' := s.toks) kp
    have I2 : Inv X pins σ (upd H h'.objs.size (.frz { cls := .type "tuple", data := .seq its.toArray } (.tup ys))) { s with heap := h'.push { cls := .type "tuple", data := .seq its.toArray } } :=
      I1.laid (t' := s.toks) (fun b o e => Heap.get?_push_of_some _ e) (Nat.le_refl _) (show ObjOk X.prog X.w _ _ _ (.frz _ (.tup ys)) from ⟨Heap.get?_push_size _ rfl, hz, its, r', IsTup.new _ _⟩)
    exact ⟨.ref h'.objs.size, _, I2, rfl, q _ _ (I1.hok.fresh (Nat.le_refl _)) rfl⟩
  · obtain ⟨its, r', pl, hz⟩ := I.tuple hq
    exact call_tuple_same pl ⟨.ref p, H, I, rfl, q⟩
def tupleKF : VF := fun xs h => match xs with
  | [.lst ys] => .ok (.ktu ys) h
  | [.ktu ys] => .ok (.ktu ys) h
  | _ => .bad
theorem tupleKS {K : PySem.W.Frag} : CallS K g (rTupleK K) tupleKF := by
  intro w h H σ W Q xs vs hk r p
  unfold tupleKF at p
  split at p
  · obtain ⟨y, rfl, r1⟩ := r.one
    obtain ⟨a, ys', rfl, ha, r2⟩ := r1.lst_get
    exact ⟨a, ys', rfl, .inl ⟨SqL.of ha, fun q ob hq hd => post_newk p hk r2 hq hd⟩⟩
  · obtain ⟨y, rfl, r1⟩ := r.one
    have r0 := r1
    obtain ⟨a, ys', rfl, ha, r2⟩ := r1.ktu_get
    exact ⟨a, ys', rfl, .inr ⟨ha, Post.here p hk r0⟩⟩
  · exact p.elim

/-! ### t.index(x) -/
theorem mt_tupIndexF : MtR X "tuple.index" (fun x xs H Q => ∃ (a : Addr) (ys : List V) (y : V) (j : Nat) (z : V), x = V.ref a ∧ xs = [y] ∧ SqT X.K H a ys ∧ flatV y = true ∧ ys.all flatV = true ∧ ys[j]? = some z ∧ L2.eqV z y = true ∧
  (∀ (m : Nat) (z' : V), m < j → ys[m]? = some z' → L2.eqV z' y = false) ∧ Q (.int (j : Nat)) H) := by
  intro pins s σ H x xs v us Q I rx rxs h
  obtain ⟨a, ys, y, j, z, rfl, rfl, hs, fy, fys, hz, hzj, hno, q⟩ := h
  cases rx
  cases rxs with
  | cons ry rt =>
    rename_i uy ut
    cases rt
    obtain ⟨its, rv, pl, hlen⟩ := I.tuple hs
    obtain ⟨⟨cls, dd, data, sl⟩, ho, hc, n, hd⟩ := pl
    simp only at hc hd
    subst hc hd
    obtain ⟨u, hu, ru⟩ := rv.get hz
    obtain ⟨hjl, hje⟩ := List.getElem?_eq_some_iff.mp hu
    have hvl := rv.length
    have hj : j < its.toArray.size := by simpa using hjl
    refine call_meets PySem.F.slot_tuple_index ⟨_, ho, rfl⟩ PySem.F.entry_tuple_index (PySem.F.args_tuple_index_2 _ _)
      (TI.tuple_indexAt a its.toArray n dd sl uy (eqU y) j hj ?_ ?_) ⟨ho, fun u' hu' => mem_eqAt ry fy rv fys u' (by simpa using hu'), ?_⟩
    · have e1 : its.toArray[j] = u := by simpa using hje
      rw [e1, eqU_of ru (flat_at fys hz)]
      exact hzj
    · intro m hm hmj
      have hml : m < its.length := by simpa using hm
      have hmy : m < ys.length := by omega
      have hy' : ys[m]? = some ys[m] := List.getElem?_eq_getElem hmy
      obtain ⟨u2, hu2, ru2⟩ := rv.get hy'
      obtain ⟨_, hme⟩ := List.getElem?_eq_some_iff.mp hu2
      have e1 : its.toArray[m] = u2 := by simpa using hme
      rw [e1, eqU_of ru2 (flat_at fys hy')]
      exact hno m _ hmj hy'
    · exact ⟨.int (j : Nat), H, I.tok _, ⟨_, rfl⟩, q⟩
/-- a tuple without a dict -/
def Pln (K : PySem.W.Frag) (H : Hp) (a : Addr) (ys : List V) : Prop := KTup K a ys ∨ ∃ o, H a = some (.frz o (.tup ys)) ∧ o.dict = none
theorem pln_is {pins : List (Addr × Obj)} {σ : L2.St} {H : Hp} {s : Shared} {a : Addr} {ys : List V} (I : Inv X pins σ H s) (h : Pln X.K H a ys) : s.TypeIs (.ref a) "tuple" ∧ ∀ b, Value.ref a = .ref b → ∃ ob, s.heap.get? b = some ob ∧ ob.dict = none := by
  rcases h with ⟨o, its, n, h1, h2, h3, _, h4, h5⟩ | ⟨o, h1, h2⟩
  · exact ⟨⟨o, I.kIn _ _ h1, h2⟩, fun b e => by cases e; exact ⟨o, I.kIn _ _ h1, h5⟩⟩
  · obtain ⟨g0, _, its, r, ⟨o2, g1, g2, n2, g3⟩⟩ := (show ObjOk X.prog X.w H s.heap a (.frz o (.tup ys)) from I.hok a _ h1)
    exact ⟨⟨o2, g1, g2⟩, fun b e => by cases e; exact ⟨o, g0, h2⟩⟩
def rIdx (K : PySem.W.Frag) (a : Addr) (ys : List V) : List V → Hp → VK → Prop := fun vs H Q => ∃ (y : V) (j : Nat) (z : V), vs = [y] ∧ SqT K H a ys ∧ flatV y = true ∧ ys.all flatV = true ∧ ys[j]? = some z ∧ L2.eqV z y = true ∧
  (∀ (m : Nat) (z' : V), m < j → ys[m]? = some z' → L2.eqV z' y = false) ∧ Q (.int (j : Nat)) H
theorem pe_tupIndex (ho : PE X o to) (ha : PA X [e] t)
    (hbase : attributeBase o "index" X.env (eval o X.env) = eval o X.env)
    (hfew : ((backTo cpos (starEach [e] X.env)).all (fun x => !x.1) && (backToKw cpos (keywordEach [] X.env)).all (fun x => x.1.isSome)
      && decide ([e].length + ([] : List Keyword).length + (if ([] : List Keyword).isEmpty then 0 else 1) < 30)) = true)
    (hline : (apos.endLine == cpos.line) = true) (hs : starEach [e] X.env = (false, eval e X.env) :: starEach [] X.env) :
    PE X (.Call (.Attribute o "index" apos) [e] [] cpos) (fun σ H Q => to σ H fun x H1 => ∃ a ys, x = .ref a ∧ Pln X.K H1 a ys ∧ t σ H1 fun vs H2 => rIdx X.K a ys vs H2 Q) := by
  refine ⟨fun pins s σ H Q I h => ?_⟩
  refine wpAny_Call_method_late hbase hfew hline rfl (thn (ho.run pins s σ H _ I h) fun v s1 ⟨x, H1, I1, r1, a, ys, ex, pl, q1⟩ => ?_)
  subst ex
  obtain rfl : v = Value.ref a := r1
  obtain ⟨h1, h2⟩ := pln_is I1 pl
  refine ⟨"tuple", "tuple.index", PySem.F.plainAttrs_tuple, PySem.F.slot_tuple_index, PySem.F.type_tuple_index, h1, h2, ?_⟩
  have hA := ha.run cpos pins s1 σ H1 _ I1 q1
  rw [hs] at hA ⊢
  refine Calls.callWith_builtin (by rfl) (Calls.evalArgs_plain ?_)
  refine thn hA fun us s2 ⟨vs, H2, I2, r2, y, j, z, ev, q2⟩ => ?_
  subst ev
  exact mt_tupIndexF pins s2 σ H2 (.ref a) [y] (.ref a) us Q I2 rfl r2 ⟨a, ys, y, j, z, rfl, rfl, q2⟩
def idxGo (y : V) : List V → Nat → Option Nat
  | [], _ => none
  | z :: r, n => if L2.eqV z y then some n else idxGo y r (n + 1)
theorem idxGo_ok {y : V} : ∀ {zs : List V} {n j : Nat}, idxGo y zs n = some j → n ≤ j ∧ (∃ z, zs[j - n]? = some z ∧ L2.eqV z y = true) ∧ ∀ (m : Nat) (z' : V), m < j - n → zs[m]? = some z' → L2.eqV z' y = false
  | [], _, _, e => by cases e
  | z :: r, n, j, e => by
    unfold idxGo at e
    split at e
    · rename_i q
      cases e
      exact ⟨Nat.le_refl _, ⟨z, by simp, q⟩, fun m z' h => by omega⟩
    · rename_i q
      obtain ⟨h1, ⟨z2, h2, h3⟩, h4⟩ := idxGo_ok e
      refine ⟨by omega, ⟨z2, ?_, h3⟩, fun m z' h h' => ?_⟩
      · rw [show j - n = (j - (n + 1)) + 1 by omega, List.getElem?_cons_succ]
        exact h2
      · cases m with
        | zero => simp at h'; subst h'; simpa using q
        | succ m => exact h4 m z' (by omega) (by simpa using h')
def indexM (mo : ME) (a : MA) : ME := fun sv h => (mo sv h).bind fun x h1 => match x with
  | .ktu xs => (a sv h1).bind fun ys h2 => (match ys with
    | [y] => (match scV y with
      | some b => (match scVs xs with
        | some zs => (match idxGo b zs 0 with
          | some j => .ok (.int (j : Nat)) h2
          | none => .bad)
        | none => .bad)
      | none => .bad)
    | _ => .bad)
  | _ => .bad
theorem re_index (ho : RE X g W o mo) (ha : RA X g W [e] ma)
    (hbase : attributeBase o "index" X.env (eval o X.env) = eval o X.env := by rfl)
    (hfew : ((backTo cpos (starEach [e] X.env)).all (fun x => !x.1) && (backToKw cpos (keywordEach [] X.env)).all (fun x => x.1.isSome)
      && decide ([e].length + ([] : List Keyword).length + (if ([] : List Keyword).isEmpty then 0 else 1) < 30)) = true := by rfl)
    (hline : (apos.endLine == cpos.line) = true := by rfl) (hs : starEach [e] X.env = (false, eval e X.env) :: starEach [] X.env := by rfl) :
    RE X g W (.Call (.Attribute o "index" apos) [e] [] cpos) (indexM mo ma) :=
  pe_imp (pe_tupIndex ho ha hbase hfew hline hs) fun σ H Q ⟨w, sv, h, rs, hk, pp⟩ => by
    refine seqG' rs hk pp fun w1 H1 h1 v y e1 rs1 k1 r1 p1 => ?_
    split at p1
    · rename_i xs
      have r0 := r1
      obtain ⟨a, ys, rfl, q2, st⟩ := RV.ktu_st r1
      simp only [relV, RV] at r0
      obtain ⟨a', ys', ea, pl, q3⟩ := r0
      cases ea
      refine ⟨a, ys', rfl, pl.imp id (fun ⟨o, z1, z2, _⟩ => ⟨o, z1, z2⟩), ?_⟩
      refine seqG' rs1 k1 p1 fun w2 H2 h2 us zs e2 rs2 k2 r2 p2 => ?_
      split at p2
      · rename_i y
        split at p2
        · rename_i b eb
          split at p2
          · rename_i zs' ez
            split at p2
            · rename_i j ej
              obtain ⟨u, rfl, ru⟩ := RVs.one r2
              obtain ⟨rfl, fb⟩ := scV_ok eb ru
              obtain ⟨rfl, fz⟩ := scVs_ok ez q3
              obtain ⟨_, ⟨z, h3, h4⟩, h5⟩ := idxGo_ok ej
              have st2 : SqT X.K H2 a ys' := pl.elim KTup.sq (fun ⟨o, q, _, m⟩ => .inl (.inr ⟨o, (e2.keep a _ q m).1⟩))
              exact ⟨_, j, z, rfl, st2, fb, fz, by simpa using h3, h4, fun m z' hm hz => h5 m z' (by simpa using hm) hz, post_int p2 k2⟩
            · exact p2.elim
          · exact p2.elim
        · exact p2.elim
      · exact p2.elim
    · exact p1.elim
end

/-! ### sep.join(texts), str(i) -/
section
variable {X : Cx} {g : Gx} {W : WX} {e o : Expr} {m mo me : ME} {ma : MA} {pos apos cpos p : Pos}
def strsOf : List VV → Option (List Str)
  | [] => some []
  | .str x :: r => (strsOf r).map fun l => x :: l
  | _ => none
theorem strsOf_ok {K : PySem.W.Frag} {G : Nat → Addr} {w : Wd} {H : Hp} : ∀ {xs : List VV} {ss : List Str} {ys : List V}, strsOf xs = some ss → RVs K G w H xs ys → ys = ss.map V.str
  | [], _, _, e, r => by
    simp only [strsOf, Option.some.injEq] at e
    simp only [RVs] at r
    subst e r
    rfl
  | .str x :: xs, _, _, e, r => by
    simp only [strsOf, Option.map_eq_some_iff] at e
    obtain ⟨l, e1, rfl⟩ := e
    simp only [RVs, RV] at r
    obtain ⟨y, ys, rfl, rfl, r2⟩ := r
    rw [strsOf_ok e1 r2]
    rfl
  | .non :: _, _, _, e, _ => by simp [strsOf] at e
  | .bl _ :: _, _, _, e, _ => by simp [strsOf] at e
  | .int _ :: _, _, _, e, _ => by simp [strsOf] at e
  | .ty _ :: _, _, _, e, _ => by simp [strsOf] at e
  | .tup _ :: _, _, _, e, _ => by simp [strsOf] at e
  | .lst _ :: _, _, _, e, _ => by simp [strsOf] at e
  | .rol _ :: _, _, _, e, _ => by simp [strsOf] at e
  | .dct _ _ :: _, _, _, e, _ => by simp [strsOf] at e
  | .ins _ _ :: _, _, _, e, _ => by simp [strsOf] at e
  | .ref _ :: _, _, _, e, _ => by simp [strsOf] at e
  | .adr _ :: _, _, _, e, _ => by simp [strsOf] at e
  | .dtt _ _ :: _, _, _, e, _ => by simp [strsOf] at e
  | .ktu _ :: _, _, _, e, _ => by simp [strsOf] at e
def joinM (mo me : ME) : ME := fun sv h => (mo sv h).bind fun x h1 => match x with
  | .str a => (me sv h1).bind fun y h2 => (match y with
    | .lst xs => (match strsOf xs with
      | some ss => if Nat.ble ((ss.map (·.length)).sum + ss.length * a.length) 10000 then .ok (.str (Txt.join a ss)) h2 else .bad
      | none => .bad)
    | _ => .bad)
  | _ => .bad
theorem re_join (ho : RE X g W o mo) (he : RE X g W e me) (hs : starEach [e] X.env = [(false, eval e X.env)] := by rfl) (hbase : attributeBase o "join" X.env (eval o X.env) = eval o X.env := by rfl) (hline : (apos.endLine == pos.line) = true := by rfl) :
    RE X g W (.Call (.Attribute o "join" apos) [e] [] pos) (joinM mo me) :=
  pe_imp (pe_join ho he hs hbase hline) fun σ H Q ⟨w, sv, h, rs, hk, pp⟩ => by
    refine seqG' rs hk pp fun w1 H1 h1 v y e1 rs1 k1 r1 p1 => ?_
    split at p1
    · rename_i a
      refine ⟨⟨a, r1.str_eq⟩, ?_⟩
      refine seqG' rs1 k1 p1 fun w2 H2 h2 v2 y2 e2 rs2 k2 r2 p2 => ?_
      split at p2
      · rename_i xs
        split at p2
        · rename_i ss es
          split at p2
          · rename_i hz
            have hz := Nat.le_of_ble_eq_true hz
            obtain ⟨q, ys, rfl, hq, r3⟩ := r2.lst_get
            rw [strsOf_ok es r3] at hq
            exact ⟨a, q, ss, r1.str_eq, rfl, .inl (SqL.of hq), by omega, post_str p2 k2⟩
          · exact p2.elim
        · exact p2.elim
      · exact p2.elim
    · exact p1.elim
def digitS (i : Int) : Option Str := if i = 0 then some "0" else if i = 1 then some "1" else if i = 2 then some "2" else if i = 3 then some "3" else if i = 4 then some "4" else if i = 5 then some "5" else none
theorem digitS_ok {i : Int} {x : Str} (e : digitS i = some x) : i.natAbs.log2 < 1920 ∧ (toString i : Str) = x := by
  unfold digitS at e
  repeat' split at e
  all_goals first
    | (cases e; subst_vars; exact ⟨by decide, by decide +kernel⟩)
    | cases e
def strF : VF := fun xs h => match xs with
  | [.int i] => (match digitS i with
    | some x => .ok (.str x) h
    | none => .bad)
  | _ => .bad
def rStr : List V → Hp → VK → Prop := fun xs H Q => ∃ i, xs = [.int i] ∧ i.natAbs.log2 < 1920 ∧ Q (.str (toString i)) H
theorem call_strA : CallR X (.type "str") rStr := call_str_int
theorem strS {K : PySem.W.Frag} : CallS K g rStr strF := by
  intro w h H σ W Q xs vs hk r p
  unfold strF at p
  split at p
  · split at p
    · rename_i x ex
      obtain ⟨y, rfl, r1⟩ := r.one
      obtain ⟨h1, h2⟩ := digitS_ok ex
      rw [r1.int_eq]
      exact ⟨_, rfl, h1, by rw [h2]; exact post_str p hk⟩
    · exact p.elim
  · exact p.elim
end

/-! ### tuple(d), d a dict with tuple keys -/
section
variable {prog : Program} {w : World} {A : Around} {E : Value → Shared → Prop} {s : Shared}
/-- what a tuple is made of: the items that the walk of a dict hands out -/
abbrev Walked (prog : Program) (w : World) (A : Around) (s : Shared) (r : Addr) (n : Nat) (ok : Array Value → Prop) : Prop := ∀ (R : List Value → Shared → Prop) (E' : Value → Shared → Prop),
  (∀ (h' : Heap) (tk : Nat) (acc : Array Value), (∀ b o, s.heap.get? b = some o → h'.get? b = some o) → acc.size = n → ok acc → R acc.toList { s with heap := h', toks := tk }) → wpAny (model prog w) A (collect (.ref r)) R E' s
theorem tuple_of_dict {r : Addr} {Q : Value → Shared → Prop} {n : Nat} {ok : Array Value → Prop} (isD : s.TypeIs (.ref r) "dict") (walk : Walked prog w A.in1.in1 s r n ok) (few : n ≤ sizeLine)
    (fin : ∀ (h' : Heap) (tk : Nat) (acc : Array Value), (∀ b o, s.heap.get? b = some o → h'.get? b = some o) → ok acc → Q (.ref h'.objs.size) { s with heap := h'.push { cls := .type "tuple", data := .seq acc }, toks := tk }) :
    wpAny (model prog w) A (call (.type "tuple") [.ref r]) Q E s := by
  have made : codeAny (model prog w) A.in1 (.call (.builtin "tuple.__new__") ⟨[.type "tuple", .ref r], []⟩) (wants (fun v s₁ => s₁.TypeIs v "tuple" ∧ Q v s₁) E) s := by
    apply codeAny_of_tree
    change wpAny _ A.in1.in1 (do checkBuiltinCall "tuple.__new__" ⟨[Value.type "tuple", .ref r], []⟩; again (.builtin "tuple.__new__" ⟨[Value.type "tuple", .ref r], []⟩)) _ _ s
    apply wpAny_bind
    apply wpAny_of_eq (F.newCall_tuple_1 _)
    apply wpAny_pure
    constructor
    · exact plainId_quiet F.plain_tuple_new _
    apply codeAny_builtin F.entry_tuple_new
    rw [Around.under_plainId F.plain_tuple_new _]
    have e1 := sub_tuple_self
    have e2 := init_tuple_lookup
    have e3 := madeHere_tuple
    have go := fun {R : List Value → Shared → Prop} {E' : Value → Shared → Prop} => walk R E'
    wp_walk using wpAny_typeOf isD, go
    intro h' tk acc kept size good
    change wpAny _ _ (Builtin.Tuple.tupleExact acc.toList.toArray >>= fun v => ret v) _ _ _
    unfold Builtin.Tuple.tupleExact
    rw [show acc.toList.toArray = acc from by simp]
    apply wpAny_bind
    refine wpAny_newObj_type (wpAny_pure ?_) (by change acc.size ≤ sizeLine; omega)
    exact ⟨⟨_, Heap.get?_push_size _ rfl, rfl⟩, fin h' tk acc kept good⟩
  apply callType_codes F.called_tuple (F.typeCall_tuple_1 _) F.entry_object_init made
  rintro v s₁ ⟨t, q⟩
  exact ⟨t, F.args_object_init_2 v _, object_init_meets F.called_tuple.init.lookup F.called_tuple.made (by decide) prog w A.in1 _ s₁ ⟨t, rfl, q⟩⟩
end
section
variable {X : Cx} {g : Gx}
def rTupD : List V → Hp → VK → Prop := fun vs H Q => ∃ (a : Addr) (kvs : List (List Key × V)), vs = [.ref a] ∧ Rd H a (.dT kvs) ∧ ∀ (ys : List V) (p : Addr), Paired (fun (kv : List Key × V) (y : V) => ∃ t, y = .ref t ∧ H t = some (.tup (kv.1.map kV))) kvs ys → H p = none → Q (.ref p) (upd H p (.tup ys))
theorem call_tupD (hc : X.calm = true) : CallR X (.type "tuple") rTupD := by
  intro pins s σ H vs us Q I r h
  obtain ⟨a, kvs, rfl, hd, q⟩ := h
  rw [Vals.ref1 r]
  obtain ⟨z, hs, xs, pr, o, es, ep, ho, hx, hdt, he, hn⟩ := (show ObjOk X.prog X.w H s.heap a (.dT kvs) from hd.ok I.hok)
  have l1 : es.size = xs.length := size_of_entries he
  have l2 : kvs.length = xs.length := Paired.length pr
  refine tuple_of_dict (n := es.size) (ok := fun acc => acc.toList = (xs.map fun x => x.2.1).map Value.ref) ⟨o, ho, hx.1⟩ (fun R E' h2 => ?_) (by omega) (fun h' tk acc kp ea => ?_)
  · refine PySem.W.kdu_collect (A := X.A.in1.in1) (kdl_raw hs hx hdt) (I.ok.hd hc) ho (by omega) fun h' tk acc kp it => h2 h' tk acc kp it.1 ?_
    rw [List.map_map]
    have hl : acc.toList.length = xs.length := by rw [Array.length_toList, it.1]; exact l1
    apply List.ext_getElem?
    intro j
    rw [List.getElem?_map]
    cases hj : acc.toList[j]? with
    | none =>
      have h1 := List.getElem?_eq_none_iff.mp hj
      rw [List.getElem?_eq_none (by omega)]
      all_goals rfl
    | some v =>
      obtain ⟨en, hen, hv⟩ := it.2 j v (by rw [← Array.getElem?_toList]; exact hj)
      have qe := entry_at he j
      rw [hen] at qe
      cases hb : xs[j]? with
      | none =>
        rw [hb] at qe
        exact nomatch (show some en = none from qe)
      | some b =>
        rw [hb] at qe
        have e2 : en = entryOfKey (tupleKind (mixKind X.prog X.w)) b := Option.some.inj qe
        rw [hv, e2]
        all_goals rfl
  · have I1 : Inv X pins σ H { s with heap := h', toks := tk } := I.kept (t' := tk) kp
    have vr : Vals ((xs.map fun x => x.2.1).map V.ref) acc.toList := by rw [ea]; exact vals_refs _
    have pk : Paired (fun (kv : List Key × V) (y : V) => ∃ t, y = .ref t ∧ H t = some (.tup (kv.1.map kV))) kvs ((xs.map fun x => x.2.1).map V.ref) := by
      clear q hd he ho hdt l1 l2 ea vr I1 kp hn z
      induction pr with
      | nil => exact .nil
      | cons r t ih => exact .cons ⟨_, rfl, r.2.1⟩ ih
    have I2 : Inv X pins σ (upd H h'.objs.size (.tup ((xs.map fun x => x.2.1).map V.ref))) { s with heap := h'.push { cls := .type "tuple", data := .seq acc }, toks := tk } :=
      I1.laid (t' := tk) (fun b o e => Heap.get?_push_of_some _ e) (Nat.le_refl _) (show ObjOk X.prog X.w _ _ _ (.tup _) from ⟨by simp only [List.length_map]; omega, acc.toList, vr, by
        have e : acc.toList.toArray = acc := by simp
        rw [e]
        exact IsTup.new _ _⟩)
    exact ⟨.ref h'.objs.size, _, I2, rfl, q _ _ pk (I1.hok.fresh (Nat.le_refl _))⟩
theorem rvs_keysP {K : PySem.W.Frag} {w : Wd} {H : Hp} {h : VH} (k : Hk K g.adr w h H) : ∀ {kvs : List (List Key × V)} {ys : List V}, Paired (fun (kv : List Key × V) (y : V) => ∃ t, y = .ref t ∧ H t = some (.tup (kv.1.map kV))) kvs ys → RVs K g.adr w H (keysT kvs) ys
  | [], _, .nil => by simp [keysT, RVs]
  | kv :: kvs, _, .cons (b := y) r t => by
    obtain ⟨a, rfl, ha⟩ := r
    simp only [keysT, List.map_cons, RVs]
    refine ⟨_, _, rfl, ?_, rvs_keysP k t⟩
    simp only [RV]
    exact ⟨a, _, rfl, ⟨ha, k.spc a _ ha⟩, RVs.of_kVs _⟩
def tupleAF : VF := fun xs h => match xs with
  | [x] => (match dictT h x with
    | some (ks, _) => .ok (.tup ks) h
    | none => tupleF [x] h)
  | _ => .bad
def rTupleA (K : PySem.W.Frag) : List V → Hp → VK → Prop := fun xs H Q => (∃ p ys, xs = [.ref p] ∧ ((SqL K H p ys ∧ ∀ l, H l = none → Q (.ref l) (upd H l (.tup ys))) ∨ (SqT K H p ys ∧ Q (.ref p) H))) ∨ rTupD xs H Q
theorem call_tupleA (hc : X.calm = true) : CallR X (.type "tuple") (rTupleA X.K) := CallR.or call_tuple_of (call_tupD hc)
theorem tupleAS {K : PySem.W.Frag} : CallS K g (rTupleA K) tupleAF := by
  intro w h H σ W Q xs vs hk r p
  unfold tupleAF at p
  split at p
  · split at p
    · rename_i ks vs' e
      obtain ⟨y, rfl, r1⟩ := r.one
      obtain ⟨a, kvs, rfl, h1, rfl, h3⟩ := dictT_ok hk e r1
      exact .inr ⟨a, kvs, rfl, h1, fun ys q pk hq => post_newt p hk (rvs_keysP hk pk) hq⟩
    · exact .inl (tupleS w h H σ W Q _ vs hk r p)
  · exact p.elim
end
/-! ### (e,) * k, k above 1000 -/
section
variable {X : Cx} {g : Gx}
/-- a tuple of at most 100 items, up to 10000 times -/
def rRepM (K : PySem.W.Frag) : R2 := fun x y H Q => ∃ l k xs, x = .ref l ∧ y = .int k ∧ SqT K H l xs ∧ xs ≠ [] ∧ 2 ≤ k ∧ k ≤ 10000 ∧ xs.length ≤ 100 ∧ ∀ p, H p = none → Q (.ref p) (upd H p (.tup (List.replicate k.toNat xs).flatten))
theorem op_repM : OpR X (binaryOp .Mult) (rRepM X.K) := fun pins s σ H x y v u Q I rx ry h => by
  obtain ⟨l, k, xs, ex, ey, sq, ne, k2, k1, few, fin⟩ := h
  subst ex ey
  cases rx
  obtain ⟨t, eu⟩ := ry
  subst eu
  obtain ⟨its, rel, ⟨⟨c, dd, dt, sl⟩, at_, hc, n, hd⟩, _⟩ := I.tuple sq
  dsimp only at hc hd
  subst hc hd
  have len := rel.length
  have size : its.toArray.size = xs.length := by rw [List.size_toArray]; exact len.symm
  have pos : 0 < xs.length := List.length_pos_iff.mpr ne
  have full : its.toArray.isEmpty = false := by
    cases its with
    | nil => exact absurd len.symm (by simp; omega)
    | cons _ _ => rfl
  have prod : ((its.toArray.size : Nat) : Int) * k ≤ 1000000 := by
    rw [size]
    exact Int.le_trans (Int.mul_le_mul_of_nonneg_right (show ((xs.length : Nat) : Int) ≤ 100 by omega) (by omega)) (by omega)
  have flat : k.toNat * xs.length ≤ 1000000 := Nat.le_trans (Nat.mul_le_mul (show k.toNat ≤ 10000 by omega) few) (by decide)
  have b0 : (decide (k < -(2 ^ 63)) || decide (k ≥ 2 ^ 63)) = false := by simp only [Bool.or_eq_false_iff, decide_eq_false_iff_not]; omega
  have b1 : (its.toArray.isEmpty || k == 1) = false := by rw [full, Bool.false_or, beq_eq_false_iff_ne]; omega
  have b2 : (decide (k ≤ 0) || its.toArray.isEmpty) = false := by rw [full, Bool.or_false, decide_eq_false_iff_not]; omega
  have b3 : Builtin.Tuple.tupleTooMany (((its.toArray.size : Nat) : Int) * k) = false := decide_eq_false (by rw [sizeLine_eq]; omega)
  have b4 : (List.foldl (fun x1 x2 => x1 ++ x2) #[] (List.replicate k.toNat its.toArray)).size ≤ sizeLine := by
    rw [size_rep, List.size_toArray, PyProof.Rows.lm_len_rep_flat, sizeLine_eq, ← len]
    omega
  have here := tuple_mulW l its.toArray n dd sl k t b0 b1 b2 (by omega) b3 b4
  refine wpAny_binaryOp_repeat_ref (U := "int") (T := "tuple") (by decide) ⟨_, at_, rfl⟩ (fun z => typeIs_int z k t) noFill_tuple_mul F.fills_int_mul F.slot_int_rmul repeat_tuple F.slot_int_index.lookup ?_
  refine call_meets F.slot_int_rmul (typeIs_int s k t) F.entry_int_rmul (F.args_int_rmul_2 _ _) (int_rmul_tuple k t l its.toArray n dd sl) ⟨at_, rfl, ⟨_, at_, rfl⟩, ?_⟩
  refine call_meets F.slot_tuple_mul ⟨_, at_, rfl⟩ F.entry_tuple_mul (F.args_tuple_mul_2 _ _) here ⟨at_, ?_⟩
  have laid := I.laid (t' := s.toks) (o := .tup (List.replicate k.toNat xs).flatten) (h' := s.heap.push { cls := .type "tuple", data := .seq (List.replicate k.toNat its).flatten.toArray }) (fun b ob q => Heap.get?_push_of_some _ q) (Nat.le_refl _)
    ⟨by rw [PyProof.Rows.lm_len_rep_flat, sizeLine_eq]; omega, _, rel.rep k.toNat, IsTup.new _ _⟩
  rw [size_rep]
  exact ⟨.ref s.heap.objs.size, _, laid, rfl, fin _ (I.hok.fresh (Nat.le_refl _))⟩
/-- * with this -/
def mulAV : V2 := fun x y h => match x with
  | .tup xs => (match y with
    | .int k => if !xs.isEmpty && decide (1000 < k) && decide (k ≤ 10000) && Nat.ble xs.length 100 then (match repL xs k with | some zs => .ok (.tup zs) h | none => .bad) else mulV x y h
    | _ => .bad)
  | _ => mulV x y h
theorem mulAS {K : PySem.W.Frag} : OpS K g (fun x y H Q => rMulA K x y H Q ∨ rRepM K x y H Q) mulAV := by
  intro w h H σ W Q x y vx vy hk rx ry p
  unfold mulAV at p
  split at p
  · rename_i xs
    split at p
    · rename_i k
      split at p
      · rename_i hc
        simp only [Bool.and_eq_true, Bool.not_eq_true', decide_eq_true_eq] at hc
        obtain ⟨⟨⟨c1, c2⟩, c3⟩, c4⟩ := hc
        have c4 := Nat.le_of_ble_eq_true c4
        split at p
        · rename_i zs e
          obtain ⟨h0, h1, h2, rfl⟩ := repL_ok e
          obtain ⟨a, xs', rfl, ha, r1⟩ := rx.tup_get
          refine .inr ⟨a, k, xs', rfl, ry.int_eq, ha, ?_, by omega, c3, by rw [← r1.length]; exact c4, fun q hq => post_newt p hk (r1.rep _) hq⟩
          rintro rfl
          have := r1.length
          rw [List.length_nil, List.length_eq_zero_iff] at this
          rw [this] at c1
          cases c1
        · exact p.elim
      · exact .inl (mulS w h H σ W Q _ _ vx vy hk rx ry p)
    · exact p.elim
  · exact .inl (mulS w h H σ W Q _ _ vx vy hk rx ry p)
theorem op_mulB : OpR X (binaryOp .Mult) (fun x y H Q => rMulA X.K x y H Q ∨ rRepM X.K x y H Q) := OpR.or op_mulA op_repM
end
end Mv
set_option Elab.async false
set_option linter.all false
set_option maxRecDepth 100000
/-! Mv, part AW: d.values(). -/
namespace Mv
open PySem PySem.Spec PyProof.Rows L2

/-! ### the walk of the values, whatever the keys -/
section
variable {prog : Program} {w : World} {r d : Addr} {es : Array DictEntry} {ep : Nat}
theorem src_values : PySem.W.KdlSrc prog w "dict_values" r d es.size (fun i v => ∃ hi : i < es.size, v = es[i].val) (fun h => h.IsValuesView r d ∧ h.DictRaw d es ep) where
  type := fun s ⟨⟨o, g, c, _⟩, _⟩ => ⟨o, g, c⟩
  there := fun h ⟨⟨_, g, _⟩, ⟨_, g2, _⟩⟩ => ⟨Heap.lt_size g, Heap.lt_size g2⟩
  keep := fun h h' ⟨⟨o, g, q⟩, x⟩ k => ⟨⟨o, k r (.inl rfl) o g, q⟩, x.at fun o e => k d (.inr rfl) o e⟩
  notList := by decide
  notTuple := by decide
  hint := fun A E s Q ⟨⟨o, g, c, _⟩, _⟩ q => PySem.W.kdl_hint_values (s := s) ⟨o, g, c⟩ q
  iter := fun A s hh ⟨hv, hm⟩ => by
    have lt : d < s.heap.objs.size := let ⟨_, g, _⟩ := hm; Heap.lt_size g
    refine ⟨{ cls := .type "dict_valueiterator", data := .fields #[.ref d, .int 0 0, .int es.size 0, .int ep 0] }, _, fun E Q q => wpAny_pyIter_values_raw hv hm q, Walks.rawValues hh _ d (Nat.ne_of_lt lt) es ep, ?_, hm.at fun o e => Heap.get?_push_of_some _ e⟩
    exact ⟨_, Heap.get?_push_size _ rfl, rfl, rfl⟩
end
/-- the object that d.values() gives -/
def VwO (p a : Addr) : HO := .ext fun h => h.get? p = some { cls := .type "dict_values", data := .fields #[.ref a] }
section
variable {X : Cx} {pins : List (Addr × Obj)} {σ : L2.St} {H : Hp} {s : Shared}
/-- the entries' values -/
theorem ent_vals {a : Addr} {kvs : List (List Key × V)} (I : Inv X pins σ H s) (h : Rd H a (.dT kvs)) : (a == sysModules) = false ∧ ∃ es ep, s.heap.DictRaw a es ep ∧ es.size = kvs.length ∧ kvs.length ≤ sizeLine ∧ (∀ b, Value.ref a = .ref b → ∃ ob, s.heap.get? b = some ob ∧ ob.dict = none) ∧
    ∀ (i : Nat) (hi : i < es.size), ∃ v, (kvs.map (·.2))[i]? = some v ∧ RelV v es[i].val := by
  obtain ⟨z, hs, xs, pr, o, es, ep, ho, hx, hdt, he, hn⟩ := (show ObjOk X.prog X.w H s.heap a (.dT kvs) from h.ok I.hok)
  have l1 : es.size = xs.length := size_of_entries he
  have l2 : kvs.length = xs.length := Paired.length pr
  refine ⟨hs, es, ep, ⟨o, ho, hx, hdt⟩, by omega, z, fun b e => by cases e; exact ⟨o, ho, hx.2.1⟩, fun i hi => ?_⟩
  have qe := entry_at he i
  rw [Array.getElem?_eq_getElem hi] at qe
  have hxi : i < xs.length := by omega
  have hki : i < kvs.length := by omega
  rw [List.getElem?_eq_getElem hxi] at qe
  have e2 : es[i] = entryOfKey (tupleKind (mixKind X.prog X.w)) xs[i] := Option.some.inj qe
  have pi : ∀ {ks : List (List Key × V)} {ys : List (List Key × Addr × Value)} (pr : Paired (fun (p : List Key × V) (q : List Key × Addr × Value) => p.1 = q.1 ∧ H q.2.1 = some (.tup (p.1.map kV)) ∧ RelV p.2 q.2.2) ks ys) (i : Nat) (h1 : i < ks.length) (h2 : i < ys.length), RelV ks[i].2 ys[i].2.2 := by
    intro ks ys pr
    induction pr with
    | nil => intro i h1; exact absurd h1 (by simp)
    | cons r t ih =>
      intro i h1 h2
      cases i with
      | zero => exact r.2.2
      | succ i => exact ih i (by simpa using h1) (by simpa using h2)
  refine ⟨kvs[i].2, by rw [List.getElem?_map, List.getElem?_eq_getElem hki]; rfl, ?_⟩
  rw [e2]
  exact pi pr i hki hxi
end
section
variable {X : Cx} {e : Expr} {te : TE} {apos cpos : Pos}
theorem pe_valsT (he : PE X e te) (hbase : attributeBase e "values" X.env (eval e X.env) = eval e X.env) (hline : (apos.endLine == cpos.line) = true) :
    PE X (.Call (.Attribute e "values" apos) [] [] cpos) (fun σ H Q => te σ H fun x H1 => ∃ a kvs, x = .ref a ∧ Rd H1 a (.dT kvs) ∧ ∀ p, H1 p = none → Q (.ref p) (upd H1 p (VwO p a))) := by
  refine ⟨fun pins s σ H Q I h => ?_⟩
  refine wpAny_Call_method (T := "dict") (id := "dict.values") hbase rfl hline PySem.F.plainAttrs_dict PySem.F.slot_dict_values PySem.F.type_dict_values (thn (he.run pins s σ H _ I h) fun u s1 ⟨x, H1, I1, rx, a, kvs, ex, hd, q⟩ => ?_)
  subst ex
  obtain rfl : u = Value.ref a := rx
  obtain ⟨hs, es, ep, raw, _, _, nd, _⟩ := ent_vals I1 hd
  refine ⟨raw.typeIs, nd, ?_⟩
  have new : Inv X pins σ (upd H1 s1.heap.objs.size (VwO s1.heap.objs.size a)) { s1 with heap := s1.heap.push { cls := .type "dict_values", data := .fields #[.ref a] } } :=
    I1.laid (t' := s1.toks) (fun b o q => Heap.get?_push_of_some _ q) (Nat.le_refl _) ⟨Heap.get?_push_size _ rfl, ⟨_, Heap.get?_push_size _ rfl⟩, fun h1 h2 k st => st _ k⟩
  have fin := q _ (I1.hok.fresh (Nat.le_refl _))
  show wpAny _ _ (callWith cpos (.builtin "dict.values") [.ref a] [] []) _ X.xe s1
  exact method_meetsIn PySem.F.slot_dict_values PySem.F.entry_dict_values rfl (PySem.evalArgs_none ⟨rfl, raw.typeIs, PySem.F.args_dict_values_1 _, _, meets_dict_values_raw a hs, ⟨es, ep, raw⟩, ⟨V.ref s1.heap.objs.size, _, new, rfl, fin⟩⟩)
def rListVw : List V → Hp → VK → Prop := fun xs H Q => ∃ p a kvs, xs = [.ref p] ∧ H p = some (VwO p a) ∧ Rd H a (.dT kvs) ∧ ∀ l, H l = none → Q (.ref l) (upd H l (.lst (kvs.map (·.2))))
theorem call_listVw (hc : X.calm = true) : CallR X (.type "list") rListVw := by
  intro pins s σ H xs us Q I r h
  obtain ⟨p, a, kvs, rfl, hp, hd, q⟩ := h
  rw [Vals.ref1 r]
  obtain ⟨hs, es, ep, raw, l1, z, nd, at_⟩ := ent_vals I hd
  obtain ⟨g, _, _⟩ := (show ObjOk X.prog X.w H s.heap p (VwO p a) from I.hok p _ hp)
  refine PySem.W.kdl_call (src_values (es := es) (ep := ep)) (I.ok.hd hc) ⟨⟨_, g, rfl, rfl⟩, raw⟩ (by omega) fun h' tk acc c kp hS it => ?_
  refine ⟨.ref s.heap.objs.size, upd H s.heap.objs.size (.lst (kvs.map (·.2))), I.laid kp (Nat.le_refl _) (show ObjOk X.prog X.w _ _ _ (.lst (kvs.map (·.2))) from ⟨by rw [List.length_map]; exact z, acc.toList, c, ?_, by rw [Array.toArray_toList]; exact hS⟩), rfl, q _ (I.hok.fresh (Nat.le_refl _))⟩
  have el : acc.toList.length = acc.size := by simp
  refine vals_of_at (by rw [List.length_map, el, it.1, l1]) fun j x v h1 h2 => ?_
  obtain ⟨hj, ev⟩ := it.2 j v (by rw [← Array.getElem?_toList]; exact h2)
  obtain ⟨y, hy, ry⟩ := at_ j hj
  rw [hy] at h1
  cases h1
  rw [ev]
  exact ry
variable {g : Gx} {W : WX} {m : ME} {pos p : Pos}
/-- list(d.values()), d a dict with tuple keys -/
def listValsM (a : ME) : ME := fun sv h => (a sv h).bind fun x h1 => match dictT h1 x with
  | some (_, vs) => .ok (.lst vs) h1
  | none => .bad
theorem re_listVals (hc : X.calm = true) (he : RE X g W e m) (hg : Gl X "list") (hm : X.mg "list" = none) (hbase : attributeBase e "values" X.env (eval e X.env) = eval e X.env := by rfl) (hline : (apos.endLine == cpos.line) = true := by rfl)
    (hst : starEach [.Call (.Attribute e "values" apos) [] [] cpos] X.env = (false, eval (.Call (.Attribute e "values" apos) [] [] cpos) X.env) :: starEach [] X.env := by rfl) :
    RE X g W (.Call (.Name "list" p) [.Call (.Attribute e "values" apos) [] [] cpos] [] pos) (listValsM m) :=
  pe_imp (pe_callTy (call_listVw hc) hg hm boot_list (pa_cons (pe_valsT he hbase hline) pa_nil) (by decide) (by decide) hst (by rfl)) fun σ H Q ⟨w, sv, h, rs, hk, pp⟩ => by
    refine seqG' rs hk pp fun w1 H1 h1 v y e1 rs1 k1 r1 p1 => ?_
    split at p1
    · rename_i ks vs ed
      obtain ⟨a, kvs, rfl, h2, _, h3⟩ := dictT_ok k1 ed r1
      refine ⟨a, kvs, rfl, h2, fun q hq => ?_⟩
      have ne : a ≠ q := by
        rcases h2 with z | ⟨o, z⟩
        · exact ne_of_none z hq
        · exact ne_of_none z hq
      have ex := Ext.grow (o := VwO q a) k1 hq
      have kk := Hk.grow (o := VwO q a) k1 hq
      refine ⟨q, a, kvs, rfl, upd_same, ?_, fun l hl => ?_⟩
      · rcases h2 with z | ⟨o, z⟩
        · exact .inl (by rw [upd_ne ne]; exact z)
        · exact .inr ⟨o, by rw [upd_ne ne]; exact z⟩
      · exact post_newl (Post.mono ex p1) kk (RVs.mono ex.sees _ _ h3) hl
    · exact p1.elim
end
end Mv
set_option Elab.async false
set_option linter.all false
set_option maxRecDepth 100000
/-! Mv, part AX: max(xs, default=d). -/
namespace Mv
open PySem PySem.Spec PyProof.Rows L2

/-- the greatest so far -/
def best1 (b : Option Int) (x : Int) : Option Int := match b with
  | none => some x
  | some y => if x > y then some x else some y
def bestTo (val : Nat → Int) : Nat → Option Int
  | 0 => none
  | n + 1 => best1 (bestTo val n) (val n)
def heldV : Option Value → Array Value
  | none => #[]
  | some v => #[v, v]
def isBest (v : Option Value) (m : Option Int) : Prop := match v, m with
  | none, none => True
  | some v, some x => ∃ t, v = .int x t
  | _, _ => False
section
variable {prog : Program} {w : World} {A : Around} {E : Value → Shared → Prop}
theorem max_turns {I l S : Addr} {n : Nat} {P : Nat → Value → Prop} {St : Nat → Heap → Prop} {dv : Value} {R : Result → Shared → Prop} (W : Walks prog w A.in1 I [I, l] [I] n P St) (val : Nat → Int) (iv : ∀ i v, P i v → ∃ t, v = .int (val i) t) (SI : S ≠ I) (Sl : S ≠ l) :
    ∀ (k i : Nat) (s : Shared) (b : Option Value) (c : Nat), n - i = k → i ≤ n → St i s.heap → isBest b (bestTo val i) → s.heap.get? S = some { cls := .type "list", dict := none, data := .seq (heldV b) c, slots := #[] } →
      (∀ (v : Value) (h' : Heap) (tk : Nat), (match bestTo val n with
        | none => v = dv
        | some x => ∃ t, v = .int x t) → (∀ a o, a ≠ S → a ≠ I → s.heap.get? a = some o → h'.get? a = some o) → R (.ok (.ret v)) { s with heap := h', toks := tk }) →
      codeAny (model prog w) A (.builtin "max.loop" ⟨[.ref I, .none, .ref S], [(Str.ofString "default", dv)]⟩) R s := by
  have nm : (toString "max" ++ toString ".loop" : String) = "max.loop" := by decide
  have two : ∀ {v : Value}, (heldV (some v)).size ≤ sizeLine := fun {v} => by show 2 ≤ sizeLine; rw [sizeLine_eq]; decide
  have other : ∀ {h : Heap} {f : Obj → Obj} {a : Addr} {o : Obj}, a ≠ S → h.get? a = some o → (h.update S f).get? a = some o := fun ne e => (Heap.get?_update_other _ _ (Ne.symm ne)).trans e
  intro k
  induction k with
  | zero =>
    intro i s b c hk hi st ib hS fin
    obtain rfl : i = n := by omega
    apply codeAny_builtin F.entry_max_loop
    rw [Around.under_plainId F.plain_max_loop _]
    change wpAny _ A.in1 (seqItems? (.ref S) >>= _) _ _ s
    apply wpAny_bind
    apply wpAny_seqItems hS rfl
    change wpAny _ A.in1 (tryCatch (pyNext (.ref I)) _ >>= _) _ _ s
    apply wpAny_bind
    refine wpAny_tryCatch (W.done s _ _ st fun h' tk kp => ?_)
    have hS' := kp S _ (by simpa using SI) hS
    cases b with
    | none =>
      have no : bestTo val i = none := by
        cases e : bestTo val i with
        | none => rfl
        | some x => rw [e] at ib; exact ib.elim
      apply wpAny_bind
      apply wpAny_rule
      refine wpAny_pure (fin dv h' tk (by rw [no]) fun a o h1 h2 e => kp a o (by simpa using h2) e)
    | some vb =>
      change wpAny _ A.in1 (updateSeq S (fun _ => #[]) >>= _) _ _ _
      apply wpAny_bind
      refine wpAny_updateSeq (hz := two) hS' rfl (wpAny_bind (wpAny_letGo (wpAny_pure ?_)))
      refine fin vb _ tk ?_ fun a o h1 h2 e => other h1 (kp a o (by simpa using h2) e)
      cases e : bestTo val i with
      | none => rw [e] at ib; exact ib.elim
      | some x => rw [e] at ib; exact ib
  | succ k ih =>
    intro i s b c hk hi st ib hS fin
    have lt : i < n := by omega
    apply codeAny_builtin F.entry_max_loop
    rw [Around.under_plainId F.plain_max_loop _]
    change wpAny _ A.in1 (seqItems? (.ref S) >>= _) _ _ s
    apply wpAny_bind
    apply wpAny_seqItems hS rfl
    change wpAny _ A.in1 (tryCatch (pyNext (.ref I)) _ >>= _) _ _ s
    apply wpAny_bind
    refine wpAny_tryCatch (W.item i s _ _ lt st fun v h' tk pv st' kp => ?_)
    have hS' := kp S _ (by simpa using SI) hS
    have low : ∀ {f : Obj → Obj}, St (i + 1) (h'.update S f) := fun {f} => W.frame _ h' _ st' fun a ha o e => other (fun z => by
      rw [z] at ha
      rcases List.mem_cons.mp ha with q | q
      · exact SI q
      · exact Sl (by simpa using q)) e
    have on : ∀ (b' : Option Value) (c' : Nat) (h2 : Heap), St (i + 1) h2 → isBest b' (bestTo val (i + 1)) → h2.get? S = some { cls := .type "list", dict := none, data := .seq (heldV b') c', slots := #[] } → (∀ a o, a ≠ S → h'.get? a = some o → h2.get? a = some o) →
        codeAny (model prog w) A (.builtin "max.loop" ⟨[.ref I, .none, .ref S], [(Str.ofString "default", dv)]⟩) R { s with heap := h2, toks := tk } := fun b' c' h2 s1 s2 s3 s4 =>
      ih (i + 1) { s with heap := h2, toks := tk } b' c' (by omega) lt s1 s2 s3 fun v h3 tk3 q1 q2 => fin v h3 tk3 q1 fun a o h1 h2' e => q2 a o h1 h2' (s4 a o h1 (kp a o (by simpa using h2') e))
    cases b with
    | none =>
      have no : bestTo val i = none := by
        cases e : bestTo val i with
        | none => rfl
        | some x => rw [e] at ib; exact ib.elim
      change wpAny _ A.in1 (updateSeq S (fun _ => #[v, v]) >>= _) _ _ _
      apply wpAny_bind
      refine wpAny_updateSeq hS' rfl ?_
      rw [nm]
      refine wpAny_pure ⟨plainId_quiet F.plain_max_loop _, on (some v) _ _ low ?_ (Heap.get?_update_self _ hS' rfl) fun a o h1 e => other h1 e⟩
      show isBest (some v) (best1 (bestTo val i) (val i))
      rw [no]
      exact iv i v pv
    | some vb =>
      cases e : bestTo val i with
      | none => rw [e] at ib; exact ib.elim
      | some x =>
        rw [e] at ib
        obtain ⟨t, rfl⟩ := ib
        obtain ⟨u, rfl⟩ := iv i v pv
        have cmp : ∀ (s : Shared) (Q : Value → Shared → Prop) (E : Value → Shared → Prop), Q (.bool (decide (val i > x))) s → wpAny (model prog w) A.in1 (richCompare .Gt (.int (val i) u) (.int x t)) Q E s := fun s Q E q =>
          richCompare_gives (op := .Gt) (typeIs_int s _ u) (typeIs_int s _ t) F.slot_int_gt F.entry_int_gt (F.args_int_gt_2 _ _) (gives_int_gt _ _ u t) (fun x => nomatch x) q
        change wpAny _ A.in1 (tryCatch (holding [.int (val i) u, .int (val i) u] (richCompare .Gt (.int (val i) u) (.int x t) >>= _)) _ >>= _) _ _ _
        apply wpAny_bind
        refine wpAny_tryCatch (wpAny_holding (wpAny_bind (cmp _ _ _ ?_)))
        apply wpAny_bind
        refine wpAny_holding (wpAny_truthy_bool ?_)
        refine wpAny_bind (wpAny_letGo (wpAny_pure ?_))
        by_cases gt : val i > x
        · rw [decide_eq_true gt]
          simp only [if_true]
          apply wpAny_bind
          refine wpAny_updateSeq (hz := two) hS' rfl (wpAny_bind (wpAny_letGo ?_))
          rw [nm]
          refine wpAny_pure ⟨plainId_quiet F.plain_max_loop _, on (some (.int (val i) u)) _ _ low ?_ (Heap.get?_update_self _ hS' rfl) fun a o h1 e => other h1 e⟩
          show isBest _ (best1 (bestTo val i) (val i))
          rw [e]
          simp only [best1, if_pos gt]
          exact ⟨u, rfl⟩
        · rw [decide_eq_false gt]
          simp only [Bool.false_eq_true, if_false]
          refine wpAny_bind (wpAny_letGo ?_)
          rw [nm]
          refine wpAny_pure ⟨plainId_quiet F.plain_max_loop _, on (some (.int x t)) c h' st' ?_ hS' fun a o _ e => e⟩
          show isBest _ (best1 (bestTo val i) (val i))
          rw [e]
          simp only [best1, if_neg gt]
          exact ⟨t, rfl⟩
theorem bestTo_eq (ns : List Int) : ∀ n, n ≤ ns.length → bestTo (fun i => ns.getD i 0) n = (ns.take n).foldl best1 none
  | 0, _ => rfl
  | n + 1, h => by
    unfold bestTo
    rw [bestTo_eq ns n (by omega), List.take_succ, List.foldl_append, List.getElem?_eq_getElem (by omega)]
    simp [List.getD_eq_getElem?_getD, List.getElem?_eq_getElem (show n < ns.length by omega)]
end
section
variable {X : Cx} {g : Gx}
def rMaxD (K : PySem.W.Frag) : List V → List V → Hp → VK → Prop := fun xs zs H Q => ∃ (a : Addr) (ns : List Int) (d : V), xs = [.ref a] ∧ zs = [d] ∧ SqL K H a (ns.map V.int) ∧ Q (match ns.foldl best1 none with
  | some x => .int x
  | none => d) H
theorem call_maxD (hc : X.calm = true) : CallRK X (.builtin "max") [Str.ofString "default"] (rMaxD X.K) := by
  intro pins s σ H xs zs us ws Q I r rz h
  obtain ⟨a, ns, d, rfl, rfl, hs, q⟩ := h
  obtain ⟨its, rv, pl, hz⟩ := I.list hs
  obtain rfl := Vals.ref1 r
  obtain ⟨dv, rfl, rd⟩ := vals1 rz
  have isl := pl.isList
  have lt : a < s.heap.objs.size := let ⟨_, e, _⟩ := isl; Heap.lt_size e
  have nm : (toString "max" ++ toString ".loop" : String) = "max.loop" := by decide
  have len := rv.length
  rw [List.length_map] at len
  refine kmk_tree PySem.F.kind_max PySem.F.plain_max PySem.F.entry_max (by unfold argsOk; kernel_rfl) ?_
  change wpAny _ X.A.in1 (Builtin.Builtins.bindParams "max" ["key", "default"] 0 ⟨[], [(Str.ofString "default", dv)]⟩ >>= _) _ _ s
  apply wpAny_bind
  refine wpAny_of_eq (a := [none, some dv]) rfl ?_
  refine wpAny_bind (wpAny_pure ?_)
  refine wpAny_bind (wpAny_pyIter_list isl ?_)
  refine wpAny_bind (wpAny_newList ?_ (Nat.zero_le _))
  rw [nm]
  have W := Walks.list (prog := X.prog) (w := X.w) (A := X.A.in1) (I.ok.hd hc) s.heap.objs.size a (Nat.ne_of_lt lt) its.toArray
  have nS : (s.heap.push { cls := .type "list_iterator", data := .fields #[.ref a, .int 0 0] }).objs.size = s.heap.objs.size + 1 := size_push' ..
  refine wpAny_pure ⟨plainId_quiet PySem.F.plain_max_loop _, max_turns W (fun i => ns.getD i 0) (fun i v e => ?_) (by rw [nS]; exact Nat.succ_ne_self _) (by rw [nS]; exact Nat.ne_of_gt (Nat.lt_succ_of_lt lt)) _ 0 _ none 0 rfl (Nat.zero_le _) ⟨⟨_, Heap.get?_push_of_some _ (Heap.get?_push_size _ rfl), rfl, rfl⟩, (isl.push _).push _⟩ trivial (Heap.get?_push_size _ rfl) fun v h' tk mb kp => ?_⟩
  · have e' : its[i]? = some v := by simpa using e
    have hi : i < ns.length := by
      have := (List.getElem?_eq_some_iff.mp e').1
      omega
    obtain ⟨v2, e2, t, ev⟩ := rv.get (i := i) (x := .int ns[i]) (by simp [hi])
    rw [e'] at e2
    cases e2
    exact ⟨t, by rw [ev]; simp [List.getD_eq_getElem?_getD, List.getElem?_eq_getElem hi]⟩
  · have sz : its.toArray.size = ns.length := by rw [List.size_toArray]; exact len.symm
    rw [sz, bestTo_eq ns ns.length (Nat.le_refl _), List.take_length] at mb
    have I2 : Inv X pins σ H { s with heap := h', toks := tk } := I.kept (t' := tk) fun b o e => kp b o (Nat.ne_of_lt (by rw [nS]; exact Nat.lt_succ_of_lt (Heap.lt_size e))) (Nat.ne_of_lt (Heap.lt_size e)) (Heap.get?_push_of_some _ (Heap.get?_push_of_some _ e))
    cases em : ns.foldl best1 none with
    | none =>
      rw [em] at mb q
      exact ⟨d, H, I2, by rw [mb]; exact rd, q⟩
    | some x =>
      rw [em] at mb q
      exact ⟨.int x, H, I2, mb, q⟩
end
end Mv
set_option Elab.async false
set_option linter.all false
set_option maxRecDepth 100000
/-! Mv, part AY: max with a default, walks over values, a dict with a truth value among its keys. -/
namespace Mv
open PySem PySem.Spec PyProof.Rows L2

/-! ### for x in d.values() -/
section
variable {K : PySem.W.Frag} {g : Gx} {w : Wd} {H : Hp}
theorem itd_ok {a : Addr} {o : Obj} {kvs : List (Key × V)} {vs : List VV} (st : ∀ w1 H1, Sees w H w1 H1 → H1 a = some (.frz o (.dK kvs))) (rv : RVs K g.adr w H vs (kvs.map fun p => p.2)) : ItOk K g w H vs (Itd a o kvs) where
  step := fun w1 h1 H1 i v s k q => by
    obtain ⟨z, ez, rz⟩ := rv.get i v q
    rw [List.getElem?_map] at ez
    cases eq : kvs[i]? with
    | none => rw [eq] at ez; cases ez
    | some p =>
      rw [eq] at ez
      have hz := Option.some.inj ez
      subst hz
      refine ⟨⟨st w1 H1 s, (List.getElem?_eq_some_iff.mp eq).1⟩, fun x H2 hy => ?_⟩
      obtain ⟨e2, k2, e3⟩ := hy
      subst e2
      rw [eq] at e3
      cases e3
      exact ⟨Ext.refl _ _, k, RV.mono s _ _ rz⟩
  stop := fun w1 H1 s => ⟨st w1 H1 s, by have e := rv.length; rw [List.length_map] at e; omega⟩
end
section
variable {X : Cx} {g : Gx} {W : WX} {e : Expr} {m : ME} {apos cpos : Pos} {tg : Expr}
def valsI (a : ME) : MI := fun sv h => (a sv h).bind fun x h1 => match x with
  | .dct _ vs => .ok vs h1
  | _ => .bad
theorem ri_vals (ha : RE X g W e m) (hbase : attributeBase e "values" X.env (eval e X.env) = eval e X.env := by rfl) (hline : (apos.endLine == cpos.line) = true := by rfl) : RI X g W tg (.Call (.Attribute e "values" apos) [] [] cpos) (valsI m) :=
  pi_imp (pi_values ha hbase hline) fun σ H R ⟨w, sv, h, rs, hk, p⟩ => by
    refine seqG' rs hk p fun w1 H1 h1 v y e1 rs1 k1 r1 p1 => ?_
    split at p1
    · simp only [relV, RV] at r1
      obtain ⟨a, kvs, rfl, ⟨o, q1, q2⟩, rk, rv⟩ := r1
      exact ⟨a, o, kvs, rfl, q1, Post.here p1 k1 (itd_ok (fun w2 H2 s => (s.keep a _ q1 q2).1) rv)⟩
    · exact p1.elim
end

/-! ### max([..], default=d) -/
section
variable {X : Cx} {g : Gx} {W : WX} {e d : Expr} {m md : ME} {p pos kpos : Pos}
def listOf : VV → Option (List VV)
  | .lst ys => some ys
  | .rol ys => some ys
  | _ => none
def maxDM (a b : ME) : ME := fun sv h => (a sv h).bind fun x h1 => (b sv h1).bind fun y h2 => match listOf x with
  | some ys => (match allIt ys with
    | some ns => .ok (match ns.foldl best1 none with
      | some n => .int n
      | none => y) h2
    | none => .bad)
  | none => .bad
theorem listOf_ok {w : Wd} {H : Hp} {K : PySem.W.Frag} {x : VV} {y : V} {xs : List VV} (e : listOf x = some xs) (r : RV K g.adr w H x y) : ∃ a ys, y = .ref a ∧ RVs K g.adr w H xs ys ∧ ∀ w1 H1, Sees w H w1 H1 → SqL K H1 a ys := by
  unfold listOf at e
  split at e
  · cases e
    exact RV.lst_st r
  · cases e
    exact RV.rol_st r
  · cases e
theorem re_maxD (hc : X.calm = true) (hg : Gl X "max") (hm : X.mg "max" = none) (ha : RE X g W e m) (hb : RE X g W d md)
    (he : backTo pos (starEach [e] X.env) = (false, eval e X.env) :: backTo pos (starEach [] X.env) := by rfl) (hpl : (backTo pos (starEach [e] X.env)).any (·.1) = false := by rfl)
    (hs : starEach [e] X.env = (false, eval e X.env) :: starEach [] X.env := by rfl)
    (hall : (backToKw pos (keywordEach [⟨some "default", d, kpos⟩] X.env)).all (·.1.isSome) = true := by rfl) (hnone : (backToKw pos (keywordEach [⟨some "default", d, kpos⟩] X.env)).any (·.1.isNone) = false := by rfl)
    (hks : (backToKw pos (keywordEach [⟨some "default", d, kpos⟩] X.env)).filterMap (·.1) = [Str.ofString "default"] := by rfl) :
    RE X g W (.Call (.Name "max" p) [e] [⟨some "default", d, kpos⟩] pos) (maxDM m md) :=
  pe_imp (pe_callBK (call_maxD hc) hg hm boot_max (pa_cons ha pa_nil hs) (pk_cons hb pk_nil) (by decide) (by decide) he hpl hall hnone hks) fun σ H Q ⟨w, sv, h, rs, hk, pp⟩ => by
    refine seqG' rs hk pp fun w1 H1 h1 v y e1 rs1 k1 r1 p1 => ?_
    refine seqG' rs1 k1 p1 fun w2 H2 h2 v2 y2 e2 rs2 k2 r2 p2 => ?_
    split at p2
    · rename_i xs ex
      split at p2
      · rename_i ns en
        obtain ⟨a, ys, rfl, rl, st⟩ := listOf_ok ex r1
        have exs := allIt_ok en
        subst exs
        have eys := RVs.ints (RVs.mono e2.sees _ _ rl)
        subst eys
        refine ⟨a, ns, y2, rfl, rfl, st _ _ e2.sees, ?_⟩
        refine Post.here p2 k2 ?_
        cases eb : ns.foldl best1 none with
        | none => exact r2
        | some x => simp only [relV, RV]
      · exact p2.elim
    · exact p2.elim
end
end Mv
set_option Elab.async false
set_option linter.all false
set_option maxRecDepth 100000
/-! Mv, part AZ: a dict with a truth value among its keys. -/
namespace Mv
open PySem PySem.Spec PyProof.Rows L2

/-! ### keys: False, and ints other than 0 -/
def isZ : Option Int → Value → Bool
  | none, .bool b => !b
  | some n, .int m _ => m == n && n != 0
  | _, _ => false
def hashZ : Option Int → Int
  | none => PpSet.hB false
  | some n => hashInt n
theorem isZ_none {v : Value} (h : isZ none v = true) : v = .bool false := by
  cases v <;> first
    | (rename_i b; cases b <;> first | rfl | exact absurd h Bool.false_ne_true)
    | exact absurd h Bool.false_ne_true
theorem isZ_some {n : Int} {v : Value} (h : isZ (some n) v = true) : n ≠ 0 ∧ ∃ t, v = .int n t := by
  cases v <;> first
    | (rename_i m t; simp only [isZ, Bool.and_eq_true, beq_iff_eq, bne_iff_ne] at h; exact ⟨h.2, t, by rw [h.1]⟩)
    | exact absurd h Bool.false_ne_true
def zK (prog : Program) (w : World) : PySem.KeyKind prog w (Option Int) where
  is := isZ
  hash := hashZ
  inj := fun v a b ha hb => by
    cases a with
    | none =>
      rw [isZ_none ha] at hb
      cases b with
      | none => rfl
      | some n => exact absurd hb Bool.false_ne_true
    | some n =>
      obtain ⟨_, t, rfl⟩ := isZ_some ha
      cases b with
      | none => exact absurd hb Bool.false_ne_true
      | some m =>
        obtain ⟨_, u, e⟩ := isZ_some hb
        cases e
        rfl
  byValue := fun k v h => by
    cases k with
    | none => rw [isZ_none h]; rfl
    | some n => obtain ⟨_, t, rfl⟩ := isZ_some h; rfl
  pyHash := fun {A E s k v Q} hv h => by
    cases k with
    | none => rw [isZ_none hv]; exact PpSet.pyHash_bool h
    | some n => obtain ⟨_, t, rfl⟩ := isZ_some hv; exact wpAny_pyHash_int h
  eqBool := fun {A E s a b u v Q} hu hv h => by
    cases a with
    | none =>
      cases b with
      | none =>
        rw [isZ_none hu, isZ_none hv]
        exact SeqAt.EqAt.bool_bool false false _ _ _ _ (by simpa using h)
      | some n =>
        obtain ⟨ne, t, rfl⟩ := isZ_some hv
        rw [isZ_none hu]
        refine SeqAt.EqAt.bool_int false n t _ _ _ _ ?_
        have e1 : (((if false = true then 1 else 0) : Int) == n) = false := by
          simp only [Bool.false_eq_true, if_false]
          exact beq_eq_false_iff_ne.mpr (Ne.symm ne)
        rw [e1]
        simpa using h
    | some n =>
      obtain ⟨ne, t, rfl⟩ := isZ_some hu
      cases b with
      | none =>
        rw [isZ_none hv]
        refine SeqAt.EqAt.int_bool n t false _ _ _ _ ?_
        have e1 : (n == ((if false = true then 1 else 0) : Int)) = false := by
          simp only [Bool.false_eq_true, if_false]
          exact beq_eq_false_iff_ne.mpr ne
        rw [e1]
        simpa using h
      | some m =>
        obtain ⟨_, u, rfl⟩ := isZ_some hv
        refine SeqAt.EqAt.int_int n t m u _ _ _ _ ?_
        have e1 : (n == m) = decide ((some n : Option Int) = some m) := by
          by_cases c : n = m
          · subst c; simp
          · have c2 : ¬ (some n : Option Int) = some m := fun z => c (Option.some.inj z)
            rw [decide_eq_false c2]
            exact beq_eq_false_iff_ne.mpr c
        rw [e1]
        exact h
  «strs» := fun k x t v h => by
    cases k with
    | none => exact absurd h Bool.false_ne_true
    | some n => exact absurd h Bool.false_ne_true
theorem zK_none (prog : Program) (w : World) : (zK prog w).is none (.bool false) = true := rfl
theorem zK_some (prog : Program) (w : World) {n : Int} {t : Tok} (h : n ≠ 0) : (zK prog w).is (some n) (.int n t) = true := by
  show (n == n && n != 0) = true
  simp [h]
/-- the keys as they were given -/
theorem pairs_bd {prog : Program} {w : World} {es : Array DictEntry} {n : Int} {u v : Value} (h : Pairs (zK prog w) es.toList [(none, u), (some n, v)]) : es.size = 2 ∧ ∀ (i : Nat) (x : V), [V.bl false, V.int n][i]? = some x → ∃ en, es[i]? = some en ∧ RelV x en.key := by
  have hl : es.toList.length = 2 := h.length
  refine ⟨by simpa using hl, fun i x hx => ?_⟩
  obtain ⟨e1, e2, he⟩ : ∃ e1 e2, es.toList = [e1, e2] := by
    match q : es.toList, hl with
    | [e1, e2], _ => exact ⟨e1, e2, rfl⟩
  rw [he] at h
  cases h with
  | cons k1 _ r =>
    cases r with
    | cons k2 _ _ =>
      have a1 := isZ_none (show isZ none e1.key = true from k1)
      obtain ⟨_, t, a2⟩ := isZ_some (show isZ (some n) e2.key = true from k2)
      have at_ : ∀ j, es[j]? = [e1, e2][j]? := fun j => by rw [← he, Array.getElem?_toList]
      match i, hx with
      | 0, hx =>
        cases hx
        exact ⟨e1, by rw [at_]; rfl, by rw [a1]; rfl⟩
      | 1, hx =>
        cases hx
        exact ⟨e2, by rw [at_]; rfl, by rw [a2]; exact ⟨t, rfl⟩⟩
section
variable {X : Cx} {pos p1 p2 p3 p4 : Pos} {j1 j2 j3 j4 : Nat} {g : Gx} {W : WX}
/-- {False: a, n: b} -/
theorem pe_bd {n a b : Int} (hn : n ≠ 0) : PE X (.Dict [some (.Constant (.bool false) j1 p1), some (.Constant (.int n) j2 p2)] [.Constant (.int a) j3 p3, .Constant (.int b) j4 p4] pos)
    (fun σ H Q => ∀ q, H q = none → (q == sysModules) = false → ∀ ob, BdP ob [.bl false, .int n] → Q (.ref q) (upd H q (.frz ob (.ext fun _ => True)))) := by
  refine ⟨fun pins s σ H Q I h => ?_⟩
  refine wpAny_Dict_walk (knd := zK X.prog X.w) rfl rfl (by simp) (by show 2 ≤ 15; decide) ?_
  refine pairTrees_cons_walk (Constant_bool (wpAny_Constant_int ?_))
  refine pairTrees_cons_walk (wpAny_Constant_int (wpAny_Constant_int ?_))
  refine pairTrees_nil_walk ?_
  refine ⟨[(none, .int a s.toks), (some n, .int b (s.toks + 1 + 1))], ⟨zK_none _ _, rfl, zK_some _ _ hn, rfl, True.intro⟩, Heap.DictOf.new _, fun h' dd sb => ?_⟩
  have em : merged [] [((none : Option Int), Value.int a s.toks), (some n, Value.int b (s.toks + 1 + 1))] = [(none, .int a s.toks), (some n, .int b (s.toks + 1 + 1))] := merged_nil_of_nodup _ (by simp)
  rw [em] at dd
  obtain ⟨o, es, ep, ho, hx, hd, _, pr, _⟩ := dd
  obtain ⟨sz, at_⟩ := pairs_bd pr
  have bd : BdP o [.bl false, .int n] := ⟨hx, es, ep, hd, sz, at_⟩
  have hs : (s.heap.objs.size == sysModules) = false := beq_eq_false_iff_ne.mpr (Ne.symm (Nat.ne_of_lt I.big))
  exact ⟨.ref s.heap.objs.size, _, I.laid (o := .frz o (.ext fun _ => True)) (fun x u q => sb.2 x (Nat.ne_of_lt (Heap.lt_size q)) |>.trans (Heap.get?_push_of_some _ q)) (Nat.le_refl _) ⟨ho, True.intro, ⟨o, ho⟩, fun _ _ _ _ => True.intro⟩, rfl, h _ (I.hok.fresh (Nat.le_refl _)) hs o bd⟩
def bdM (n : Int) : ME := fun sv h => .ok (.ins 0 [.bl false, .int n]) h
theorem re_bd {n a b : Int} (hn : n ≠ 0 := by decide) : RE X g W (.Dict [some (.Constant (.bool false) j1 p1), some (.Constant (.int n) j2 p2)] [.Constant (.int a) j3 p3, .Constant (.int b) j4 p4] pos) (bdM n) :=
  pe_imp (pe_bd hn) fun σ H Q ⟨w, sv, h, rs, hk, pp⟩ q hq hs ob bd => by
    have ex := Ext.grow (o := .frz ob (.ext fun _ => True)) hk hq
    have kk := Hk.grow (o := .frz ob (.ext fun _ => True)) hk hq
    refine pp w _ (.ref q) ex kk ?_
    simp only [relV, RV]
    exact ⟨q, _, rfl, ⟨ob, upd_same, ⟨hs, bd⟩, hk.fresh hq⟩, by simp [RVs, RV]⟩
end

/-! ### its length -/
section
variable {prog : Program} {w : World} {A : Around} {E : Value → Shared → Prop} {s : Shared} {d : Addr} {es : Array DictEntry} {ep : Nat}
theorem len_raw {Q : Value → Shared → Prop} (hd : (d == sysModules) = false) (hm : s.heap.DictRaw d es ep) (hfit : (es.size : Int) < 2 ^ 63)
    (h : Q (.int es.size (s.toks + 1)) { s with toks := s.toks + 1 + 1 }) : wpAny (model prog w) A (call (.builtin "len") [.ref d]) Q E s := by
  refine Calls.call_function_entry kind_len plain_len entry_len (args_len1 _) ?_
  unfold Builtin.«len»
  refine wpAny_bind (m := oneArg "len" _) (wpAny_pure ?_)
  refine wpAny_bind (m := callSpecial? (.ref d) (Str.ofString "__len__")) (wpAny_callSpecial?_slot (name := Str.ofString "__len__") hm.typeIs PySem.F.slot_dict_len
    (call_len_raw hd hm ?_))
  show wpAny _ _ _ _ _ { s with toks := s.toks + 1 }
  refine wpAny_bind (wpAny_holding (wpAny_pure ?_))
  refine wpAny_bind (wpAny_letGo ?_)
  show wpAny _ _ (if ((es.size : Nat) : Int) < 0 then _ else _) _ _ _
  rw [if_neg (by omega)]
  show wpAny _ _ (if ((es.size : Nat) : Int) ≥ 2 ^ 63 then _ else _) _ _ _
  rw [if_neg (by omega)]
  exact wpAny_bind (wpAny_mkInt (wpAny_pure ⟨_, rfl, h⟩))
end
def lenBF : VF := fun xs h => match xs with
  | [.ins 0 fs] => if fs.length < 1000 then .ok (.int fs.length) h else .bad
  | _ => lenAF xs h
def rLenBd : List V → Hp → VK → Prop := fun xs H Q => ∃ a ob vs, xs = [.ref a] ∧ (a == sysModules) = false ∧ H a = some (.frz ob (.ext fun _ => True)) ∧ BdP ob vs ∧ vs.length < 1000 ∧ Q (.int vs.length) H
def rLenB (K : PySem.W.Frag) : List V → Hp → VK → Prop := fun xs H Q => rLenA K xs H Q ∨ rLenBd xs H Q
theorem call_lenB {X : Cx} : CallR X (.builtin "len") (rLenB X.K) := by
  refine CallR.or call_lenA ?_
  intro pins s σ H xs us Q I r h
  obtain ⟨a, ob, vs, rfl, hs, ha, ⟨hx, es, ep, hd, sz, _⟩, lt, q⟩ := h
  obtain ⟨u, rfl, rx⟩ := r.one
  obtain rfl : u = .ref a := rx
  obtain ⟨hg, _⟩ := I.hok a _ ha
  refine len_raw (es := es) (ep := ep) hs ⟨ob, hg, hx, hd⟩ (by omega) ?_
  rw [sz]
  exact ⟨.int ((vs.length : Nat) : Int), H, I.tok _, ⟨_, rfl⟩, q⟩
theorem lenBS {K : PySem.W.Frag} {g : Gx} : CallS K g (rLenB K) lenBF := by
  intro w h H σ W Q xs vs hk r p
  unfold lenBF at p
  split at p
  · rename_i fs
    obtain ⟨y, rfl, r1⟩ := r.one
    simp only [RV] at r1
    obtain ⟨a, ys, rfl, ⟨ob, h1, ⟨hs, bd⟩, _⟩, rf⟩ := r1
    split at p
    · rename_i lt
      have el := rf.length
      refine .inr ⟨a, ob, ys, rfl, hs, h1, bd, by omega, ?_⟩
      rw [← el]
      exact post_int p hk
    · exact p.elim
  · exact .inl (lenAS w h H σ W Q _ vs hk r p)

/-! ### its keys, one after the other -/
def Itb (a : Addr) (o : Obj) (vs : List V) : It :=
  ⟨fun i H => H a = some (.frz o (.ext fun _ => True)) ∧ i < vs.length, fun i H x H' => H' = H ∧ vs[i]? = some x, fun i H => H a = some (.frz o (.ext fun _ => True)) ∧ vs.length ≤ i⟩
section
variable {P : Program} {w : World} {K : PySem.W.Frag} {tg : Expr} {d : Addr} {o : Obj} {es : Array DictEntry} {ep : Nat}
theorem turn_bd {vs : List V} (it : Addr) (hod : o.data = .dict es ep) (sz : es.size = vs.length) (at_ : ∀ (i : Nat) (v : V), vs[i]? = some v → ∃ en, es[i]? = some en ∧ RelV v en.key) : Turn P w K tg (Itb d o vs) [it] it (fun i h => h.IsKeyIter it d i vs.length ep) where
  mem := by simp
  obj := fun i h st b hb => by
    have e : b = it := by simpa using hb
    subst e
    obtain ⟨oi, e, c, dd⟩ := st
    exact ⟨oi, e, fun v z => by rw [dd] at z; cases z⟩
  keep := fun i h h' st k => st.at fun oi e => k it (by simp) oi e
  item := by
    intro X hP hw hK hc i pins s σ H E I hf st hg
    subst hP hw hK
    obtain ⟨hd, hi⟩ := hg
    obtain ⟨f0, f1, f2, f3, f4, f5⟩ := hf it (by simp)
    obtain ⟨hgd, _⟩ := I.hok d _ hd
    have hv : vs[i]? = some vs[i] := List.getElem?_eq_getElem hi
    obtain ⟨en, hen, hkey⟩ := at_ i _ hv
    refine next_key_item st hgd hod sz hen fun h' st' sb => ?_
    have I1 : Inv X pins σ H { s with heap := h' } := I.turned (t' := s.toks) (fun b ob hb e => (sb.2 b hb).trans e) f0 f1 f3 f4 f5
    obtain ⟨oi, e, c, dd⟩ := id st'
    exact ⟨en.key, rfl, go_of (s := { s with heap := h' }) e c dd (by decide) ⟨vs[i], H, I1, hkey, ⟨rfl, hv⟩, st', fun b hb => (hf b hb).1⟩⟩
  done := by
    intro X hP hw hK hc i pins s σ H E I hf st hg
    subst hP hw hK
    obtain ⟨hd, hi⟩ := hg
    obtain ⟨f0, f1, f2, f3, f4, f5⟩ := hf it (by simp)
    obtain ⟨hgd, _⟩ := I.hok d _ hd
    exact next_key_end (I.ok.hd hc) st hgd hod sz hi fun h' eb => ⟨rfl, I.turned (t' := s.toks) (fun b ob hb e => eb b ob hb e) f0 f1 f3 f4 f5⟩
  self := fun A i s Q E st h => by
    refine wpAny_pyIter_slot st.typeIs PySem.F.slot_dict_keyiterator_iter (wpAny_call_entry PySem.F.slot_dict_keyiterator_iter st.typeIs PySem.F.entry_dict_keyiterator_iter ?_ (PySem.F.args_dict_keyiterator_iter_1 _))
    show wpAny _ _ (ret (.ref it)) _ _ s
    exact wpAny_pure ⟨_, rfl, "dict_keyiterator", _, st.typeIs, PySem.F.slot_dict_keyiterator_next.lookup, h⟩
end
section
variable {K : PySem.W.Frag} {g : Gx} {w : Wd} {H : Hp}
theorem itb_ok {a : Addr} {o : Obj} {vs : List V} {fs : List VV} (st : ∀ w1 H1, Sees w H w1 H1 → H1 a = some (.frz o (.ext fun _ => True))) (rv : RVs K g.adr w H fs vs) : ItOk K g w H fs (Itb a o vs) where
  step := fun w1 h1 H1 i v s k q => by
    obtain ⟨z, ez, rz⟩ := rv.get i v q
    refine ⟨⟨st w1 H1 s, (List.getElem?_eq_some_iff.mp ez).1⟩, fun x H2 hy => ?_⟩
    obtain ⟨e2, e3⟩ := hy
    subst e2
    rw [ez] at e3
    cases e3
    exact ⟨Ext.refl _ _, k, RV.mono s _ _ rz⟩
  stop := fun w1 H1 s => ⟨st w1 H1 s, by have e := rv.length; omega⟩
end
section
variable {X : Cx} {tg : Expr}
theorem pi_anyB {l : Expr} {tl : TE} (hl : PE X l tl) : PI X tg l (fun σ H R => tl σ H fun x H1 => ∃ a, x = .ref a ∧ ((((∃ xs, SqL X.K H1 a xs) ∧ R (Itl X.K a) H1) ∨ ((∃ xs, SqT X.K H1 a xs) ∧ R (Itt X.K a) H1) ∨
    (∃ o kvs, H1 a = some (.frz o (.dK kvs)) ∧ R (Itk a o kvs) H1) ∨ ∃ o kvs, H1 a = some (.frz o (.dT kvs)) ∧ R (Itkt a o kvs) H1) ∨ ∃ o vs, (a == sysModules) = false ∧ H1 a = some (.frz o (.ext fun _ => True)) ∧ BdP o vs ∧ R (Itb a o vs) H1)) := by
  refine ⟨fun pins s σ H R I h => ?_⟩
  refine thn (hl.run pins s σ H _ I h) fun v s1 ⟨x, H1, I1, r1, a, e, q1⟩ => ?_
  rcases q1 with q1 | ⟨o, vs, hs, hd, ⟨hx, es, ep, hdt, sz, at_⟩, q⟩
  · subst e
    cases r1
    rcases q1 with ⟨⟨xs, hq⟩, q⟩ | ⟨⟨xs, hq⟩, q⟩ | ⟨o, kvs, hd, q⟩ | ⟨o, kvs, hd, q⟩
    · obtain ⟨its, rv, p, hz⟩ := I1.list hq
      refine wpAny_pyIter_list p.isList ?_
      refine ⟨s1.heap.objs.size, [s1.heap.objs.size], _, _, H1, rfl, I1.kept (t' := s1.toks) fun b o e => Heap.get?_push_of_some _ e, turn_list a _, ⟨_, Heap.get?_push_size _ rfl, rfl, rfl⟩, fun b hb => ?_, q⟩
      have e : b = s1.heap.objs.size := by simpa using hb
      subst e
      exact I1.fpOk (Nat.le_refl _) (I1.hok.fresh (Nat.le_refl _))
    · obtain ⟨its, rv, p, hz⟩ := I1.tuple hq
      refine wpAny_pyIter_tuple (show s1.heap.IsTuple a its.toArray from p) ?_
      refine ⟨s1.heap.objs.size, [s1.heap.objs.size], _, _, H1, rfl, I1.kept (t' := s1.toks) fun b o e => Heap.get?_push_of_some _ e, turn_tuple a _, ⟨_, Heap.get?_push_size _ rfl, rfl, rfl⟩, fun b hb => ?_, q⟩
      have e : b = s1.heap.objs.size := by simpa using hb
      subst e
      exact I1.fpOk (Nat.le_refl _) (I1.hok.fresh (Nat.le_refl _))
    · obtain ⟨hs, hgd, hx, es, ep, vs, hdt, hsz, kv, hm⟩ := I1.frzK hd
      refine iter_keys hs hgd hx hdt (pi_one (tk := s1.toks) I1 _ (turn_keys _ hdt) ⟨_, Heap.get?_push_size _ rfl, rfl, ?_⟩ q)
      rw [hsz] <;> rfl
    · obtain ⟨hs, hgd, hx, es, ep, hdt, hsz, ent⟩ := I1.frzT hd
      refine iter_keys hs hgd hx hdt (pi_one (tk := s1.toks) I1 _ (turn_keysT _ hdt) ⟨_, Heap.get?_push_size _ rfl, rfl, ?_⟩ q)
      rw [hsz] <;> rfl
  · subst e
    cases r1
    obtain ⟨hgd, _⟩ := I1.hok a _ hd
    refine iter_keys hs hgd hx hdt (pi_one (tk := s1.toks) I1 _ (turn_bd _ hdt sz at_) ⟨_, Heap.get?_push_size _ rfl, rfl, ?_⟩ q)
    rw [sz] <;> rfl
variable {g : Gx} {W : WX} {e : Expr} {m : ME}
def seqB (a : ME) : MI := fun sv h => (a sv h).bind fun x h1 => match x with
  | .tup ys => .ok ys h1
  | .lst ys => .ok ys h1
  | .rol ys => .ok ys h1
  | .ktu ys => .ok ys h1
  | .dct ks _ => .ok ks h1
  | .dtt ks _ => .ok ks h1
  | .ins 0 fs => .ok fs h1
  | _ => .bad
theorem ri_anyB (ha : RE X g W e m) : RI X g W tg e (seqB m) := pi_imp (pi_anyB ha) fun σ H R ⟨w, sv, h, rs, hk, p⟩ => by
  refine seqG' rs hk p fun w1 H1 h1 v y e1 rs1 k1 r1 p1 => ?_
  split at p1
  · obtain ⟨a, ys, rfl, r2, st⟩ := RV.tup_st r1
    exact ⟨a, rfl, .inl (.inr (.inl ⟨⟨ys, st w1 H1 (Sees.refl _ _)⟩, Post.here p1 k1 (itt_ok st r2)⟩))⟩
  · obtain ⟨a, ys, rfl, r2, st⟩ := RV.lst_st r1
    exact ⟨a, rfl, .inl (.inl ⟨⟨ys, st w1 H1 (Sees.refl _ _)⟩, Post.here p1 k1 (itl_ok st r2)⟩)⟩
  · obtain ⟨a, ys, rfl, r2, st⟩ := RV.rol_st r1
    exact ⟨a, rfl, .inl (.inl ⟨⟨ys, st w1 H1 (Sees.refl _ _)⟩, Post.here p1 k1 (itl_ok st r2)⟩)⟩
  · obtain ⟨a, ys, rfl, r2, st⟩ := RV.ktu_st r1
    exact ⟨a, rfl, .inl (.inr (.inl ⟨⟨ys, st w1 H1 (Sees.refl _ _)⟩, Post.here p1 k1 (itt_ok st r2)⟩))⟩
  · simp only [relV, RV] at r1
    obtain ⟨a, kvs, rfl, ⟨o, q1, q2⟩, rk, _⟩ := r1
    exact ⟨a, rfl, .inl (.inr (.inr (.inl ⟨o, kvs, q1, Post.here p1 k1 (itk_ok (fun w2 H2 s => (s.keep a _ q1 q2).1) rk.keys)⟩)))⟩
  · simp only [relV, RV] at r1
    obtain ⟨a, kvs, rfl, ⟨o, q1, q2⟩, rk, _⟩ := r1
    exact ⟨a, rfl, .inl (.inr (.inr (.inr ⟨o, kvs, q1, Post.here p1 k1 (itkt_ok (fun w2 H2 s => (s.keep a _ q1 q2).1) rk)⟩)))⟩
  · simp only [relV, RV] at r1
    obtain ⟨a, vs, rfl, ⟨o, q1, ⟨hs, bd⟩, q2⟩, rf⟩ := r1
    exact ⟨a, rfl, .inr ⟨o, vs, hs, q1, bd, Post.here p1 k1 (itb_ok (fun w2 H2 s => (s.keep a _ q1 q2).1) rf)⟩⟩
  · exact p1.elim
end
end Mv
set_option Elab.async false
set_option linter.all false
set_option maxRecDepth 100000
/-! Mv, part BB: & ^ >>, sorted(.., reverse=True), calls without arguments, list(d), min and max of a list. -/
namespace Mv
open PySem PySem.Spec PyProof.Rows L2

/-! ### bits -/
section
variable {K : PySem.W.Frag} {g : Gx} {X : Cx}
def bitandV : V2 := intV (fun _ _ => true) Builtin.bitAnd
def bitxorV : V2 := intV (fun _ _ => true) Builtin.bitXor
def bitshrV : V2 := intV (fun _ j => decide (0 ≤ j)) fun i j => i / 2 ^ j.toNat
theorem op_andA : OpR X (binaryOp .BitAnd) (rI (fun _ _ => True) fun i j => .int (Builtin.bitAnd i j)) := opI fun _ _ _ _ _ _ _ _ q => and_int q
theorem op_xorA : OpR X (binaryOp .BitXor) (rI (fun _ _ => True) fun i j => .int (Builtin.bitXor i j)) := opI fun _ _ _ _ _ _ _ _ q => xor_int q
theorem bitandS : OpS K g (rI (fun _ _ => True) fun i j => .int (Builtin.bitAnd i j)) bitandV := intS fun _ _ _ => trivial
theorem bitxorS : OpS K g (rI (fun _ _ => True) fun i j => .int (Builtin.bitXor i j)) bitxorV := intS fun _ _ _ => trivial
theorem bitshrS : OpS K g (rI (fun _ j => 0 ≤ j) fun i j => .int (i / 2 ^ j.toNat)) bitshrV := intS fun i j h => by simpa using h
end

/-! ### sorted of ints, falling -/
section
variable {X : Cx} {g : Gx} {W : WX} {e : Expr} {m : ME} {p pos kpos cp : Pos} {j : Nat}
def sortedRM (a : ME) : ME := fun sv h => (a sv h).bind fun x h1 => match listOf x with
  | some ys => (match allIt ys with
    | some ns => .ok (.lst ((sortI ns).reverse.map VV.int)) h1
    | none => .bad)
  | none => .bad
theorem re_sortedR (hg : Gl X "sorted") (hm : X.mg "sorted" = none) (ha : RE X g W e m)
    (he : backTo pos (starEach [e] X.env) = (false, eval e X.env) :: backTo pos (starEach [] X.env) := by rfl) (hpl : (backTo pos (starEach [e] X.env)).any (·.1) = false := by rfl)
    (hs : starEach [e] X.env = (false, eval e X.env) :: starEach [] X.env := by rfl)
    (hall : (backToKw pos (keywordEach [⟨some "reverse", .Constant (.bool true) j cp, kpos⟩] X.env)).all (·.1.isSome) = true := by rfl) (hnone : (backToKw pos (keywordEach [⟨some "reverse", .Constant (.bool true) j cp, kpos⟩] X.env)).any (·.1.isNone) = false := by rfl)
    (hks : (backToKw pos (keywordEach [⟨some "reverse", .Constant (.bool true) j cp, kpos⟩] X.env)).filterMap (·.1) = [Str.ofString "reverse"] := by rfl) :
    RE X g W (.Call (.Name "sorted" p) [e] [⟨some "reverse", .Constant (.bool true) j cp, kpos⟩] pos) (sortedRM m) :=
  pe_imp (pe_callBK (cr_sortedRev (b := true)) hg hm boot_sorted (pa_cons ha pa_nil hs) (pk_cons pe_bl pk_nil) (by decide) (by decide) he hpl hall hnone hks) fun σ H Q ⟨w, sv, h, rs, hk, pp⟩ => by
    refine seqG' rs hk pp fun w1 H1 h1 v y e1 rs1 k1 r1 p1 => ?_
    split at p1
    · rename_i xs ex
      split at p1
      · rename_i ns en
        obtain ⟨a, ys, rfl, rl, st⟩ := listOf_ok ex r1
        have exs := allIt_ok en
        subst exs
        have eys := RVs.ints rl
        subst eys
        refine ⟨a, ns, rfl, rfl, st _ _ (Sees.refl _ _), fun ns' q hp hs hq => ?_⟩
        have e2 : ns'.reverse = sortI ns := sorted_unique (((List.reverse_perm _).trans hp).trans (sortI_perm ns).symm) (List.pairwise_reverse.mpr hs) (sortI_sorted ns)
        have e3 : ns' = (sortI ns).reverse := by rw [← e2, List.reverse_reverse]
        rw [e3]
        exact post_newl p1 k1 (RVs.of_ints _) hq
      · exact p1.elim
    · exact p1.elim
end

/-! ### f() -/
section
variable {X : Cx} {g : Gx} {W : WX} {p pos : Pos} {x : Str} {j k : Nat} {f : Addr} {ps : List Str} {mf : MF}
def callF0 (mf : MF) : ME := fun _ h => mf [] h
theorem re_call0 (F : OkF X.prog X.w X.K X.mg g j f ps mf) (hr : Room k X.A) (hm : X.mg x = some (.ref f)) (tk : Takes X W) (hj : j ≤ k := by omega) (hg : Gl X x := by rfl) (hdb : (x == ("__debug__" : Str)) = false := by decide) :
    RE X g W (.Call (.Name x p) [] [] pos) (callF0 mf) := by
  obtain ⟨fd, F, B, kp, _⟩ := F
  refine ⟨fun pins s σ H Q I ⟨w, sv, h, rs, hk, pp⟩ => ?_⟩
  refine wpAny_Call_Name_kw (ld_glob I hg hm ?_ hdb)
  refine PySem.W.callWith_K0 I.kIn kp (run_fnSD (us := []) (vs := []) ((F X.base).mono hj) hr B .nil (passAt tk σ) I .nil (show spM X.K g mf [] H Q (WE W σ) from ?_))
  refine ⟨w, h, [], hk, by simp [RVs], ?_⟩
  unfold callF0 at pp
  cases q : mf [] h with
  | ok v h2 => rw [q] at pp; exact pp
  | exc x h2 => rw [q] at pp; exact pp
  | bad => rw [q] at pp; exact pp
end

/-! ### list(d), d a dict with tuple keys -/
section
variable {X : Cx} {g : Gx} {W : WX}
def rListKs : List V → Hp → VK → Prop := fun xs H Q => ∃ a kvs, xs = [.ref a] ∧ Rd H a (.dT kvs) ∧ ∀ qs : List Addr, Paired (fun (p : List Key × V) (q : Addr) => H q = some (.tup (p.1.map kV))) kvs qs → ∀ l, H l = none → Q (.ref l) (upd H l (.lst (qs.map V.ref)))
theorem call_listKs (hc : X.calm = true) : CallR X (.type "list") rListKs := by
  intro pins s σ H xs us Q I r h
  obtain ⟨a, kvs, rfl, hd, q⟩ := h
  rw [Vals.ref1 r]
  obtain ⟨z, hs, ys, pr, o, es, ep, ho, hx, hdt, he, hn⟩ := (show ObjOk X.prog X.w H s.heap a (.dT kvs) from hd.ok I.hok)
  have l1 : es.size = ys.length := size_of_entries he
  have l2 : kvs.length = ys.length := Paired.length pr
  refine PySem.W.kdl_call (KdlSrc.rawDict (es := es) (ep := ep) hs) (I.ok.hd hc) ⟨o, ho, hx, hdt⟩ (by omega) fun h' tk acc c kp hS it => ?_
  have el : acc.toList.length = acc.size := by simp
  have pq : Paired (fun (p : List Key × V) (q : Addr) => H q = some (.tup (p.1.map kV))) kvs (ys.map fun y => y.2.1) := by
    clear he hn l1 l2 z q it hd
    induction pr with
    | nil => exact .nil
    | cons r t ih => exact .cons r.2.1 ih
  refine ⟨.ref s.heap.objs.size, upd H s.heap.objs.size (.lst ((ys.map fun y => y.2.1).map V.ref)), I.laid kp (Nat.le_refl _) (show ObjOk X.prog X.w _ _ _ (.lst ((ys.map fun y => y.2.1).map V.ref)) from ⟨by rw [List.length_map, List.length_map, ← l2]; exact z, acc.toList, c, ?_, by rw [Array.toArray_toList]; exact hS⟩), rfl, q _ pq _ (I.hok.fresh (Nat.le_refl _))⟩
  refine vals_of_at (by rw [List.length_map, List.length_map, el, it.1, l1]) fun j x v h1 h2 => ?_
  obtain ⟨hj, ev⟩ := it.2 j v (by rw [← Array.getElem?_toList]; exact h2)
  have qe := entry_at he j
  rw [Array.getElem?_eq_getElem hj] at qe
  have hy : j < ys.length := by omega
  rw [List.getElem?_eq_getElem hy] at qe
  have e2 : es[j] = entryOfKey (tupleKind (mixKind X.prog X.w)) ys[j] := Option.some.inj qe
  rw [List.map_map, List.getElem?_map, List.getElem?_eq_getElem hy] at h1
  have h3 := Option.some.inj h1
  subst h3
  rw [ev, e2]
  rfl
def listDF : VF := fun xs h => match xs with
  | [x] => (match dictT h x with
    | some (ks, _) => .ok (.lst ks) h
    | none => listF [x] h)
  | _ => .bad
end
end Mv
set_option Elab.async false
set_option linter.all false
set_option maxRecDepth 100000
/-! Mv, part BC: list(d), sum(d.values()), d.update(d2), {k: v} of one's own: dicts with tuple keys. -/
namespace Mv
open PySem PySem.Spec PyProof.Rows L2

section
variable {K : PySem.W.Frag} {g : Gx} {w : Wd} {H : Hp} {h : VH}
theorem keys_refs (hk : Hk K g.adr w h H) : ∀ {kvs : List (List Key × V)} {qs : List Addr}, Paired (fun (p : List Key × V) (q : Addr) => H q = some (.tup (p.1.map kV))) kvs qs → RVs K g.adr w H (keysT kvs) (qs.map V.ref)
  | [], _, .nil => by simp [keysT, RVs]
  | p :: kvs, _, .cons (b := q) r t => by
    have ih := keys_refs hk t
    simp only [keysT, List.map_cons, RVs] at ih ⊢
    exact ⟨_, _, rfl, RV.tup_of r (hk.spc q _ r) (RVs.of_kVs _), ih⟩
theorem listDS : CallS K g (fun xs H Q => (∃ p ys, xs = [.ref p] ∧ (SqL K H p ys ∨ SqT K H p ys) ∧ ∀ l, H l = none → Q (.ref l) (upd H l (.lst ys))) ∨ rListKs xs H Q) listDF := by
  intro w h H σ W Q xs vs hk r p
  unfold listDF at p
  split at p
  · split at p
    · rename_i ks vs2 e
      obtain ⟨y, rfl, r1⟩ := r.one
      obtain ⟨a, kvs, rfl, h1, h2, _⟩ := dictT_ok hk e r1
      subst h2
      exact .inr ⟨a, kvs, rfl, h1, fun qs pq l hl => post_newl p hk (keys_refs hk pq) hl⟩
    · exact .inl (listS w h H σ W Q _ vs hk r p)
  · exact p.elim
theorem call_listDT {X : Cx} (hc : X.calm = true) : CallR X (.type "list") (fun xs H Q => (∃ p ys, xs = [.ref p] ∧ (SqL X.K H p ys ∨ SqT X.K H p ys) ∧ ∀ l, H l = none → Q (.ref l) (upd H l (.lst ys))) ∨ rListKs xs H Q) := CallR.or call_list_of (call_listKs hc)
end

/-! ### sum(d.values()) -/
section
variable {X : Cx} {g : Gx} {W : WX} {e : Expr} {m : ME} {p pos apos cpos : Pos}
def rSumVw : List V → Hp → VK → Prop := fun xs H Q => ∃ (q a : Addr) (kvs : List (List Key × V)) (ns : List Int), xs = [.ref q] ∧ H q = some (VwO q a) ∧ Rd H a (.dT kvs) ∧ kvs.map (·.2) = ns.map V.int ∧ Q (.int ns.sum) H
theorem preSum_of (ns : List Int) (f : Nat → Int) (hf : ∀ i (hi : i < ns.length), f i = ns[i]) : ∀ n, n ≤ ns.length → preSum f n = (ns.take n).sum
  | 0, _ => rfl
  | n + 1, h => by
    show preSum f n + f n = _
    rw [preSum_of ns f hf n (by omega), hf n (by omega), List.take_succ, List.sum_append, List.getElem?_eq_getElem (by omega)]
    simp
theorem call_sumVw (hc : X.calm = true) : CallR X (.builtin "sum") rSumVw := by
  intro pins s σ H xs us Q I r h
  obtain ⟨q, a, kvs, ns, rfl, hq, hd, en, fin⟩ := h
  rw [Vals.ref1 r]
  obtain ⟨hs, es, ep, raw, l1, z, nd, at_⟩ := ent_vals I hd
  obtain ⟨gv, _, _⟩ := (show ObjOk X.prog X.w H s.heap q (VwO q a) from I.hok q _ hq)
  have hl : ns.length = es.size := by
    have e := congrArg List.length en
    rw [List.length_map, List.length_map] at e
    omega
  have src := src_values (prog := X.prog) (w := X.w) (r := q) (d := a) (es := es) (ep := ep)
  obtain ⟨oi, St, pi, Wk, st0⟩ := src.iter X.A.in1 s (I.ok.hd hc) ⟨⟨_, gv, rfl, rfl⟩, raw⟩
  have vi : ∀ (i : Nat) (v : Value), (∃ hi : i < es.size, v = es[i].val) → ∃ t, v = .int (ns.getD i 0) t := fun i v ⟨hi, ev⟩ => by
    obtain ⟨y, hy, ry⟩ := at_ i hi
    have hi2 : i < ns.length := by omega
    rw [en, List.getElem?_map, List.getElem?_eq_getElem hi2] at hy
    cases hy
    obtain ⟨t, et⟩ := (show ∃ t, es[i].val = Value.int ns[i] t from ry)
    exact ⟨t, by rw [ev, et]; simp [List.getD_eq_getElem?_getD, List.getElem?_eq_getElem hi2]⟩
  have hd2 : a < s.heap.objs.size := let ⟨_, e, _⟩ := raw; Heap.lt_size e
  have tot : preSum (fun i => ns.getD i 0) es.size = ns.sum := by
    rw [← hl]
    rw [preSum_of ns _ (fun i hi => by simp [List.getD_eq_getElem?_getD, List.getElem?_eq_getElem hi]) _ (Nat.le_refl _), List.take_length]
  refine call_sum_walkAnyS (pi X.xe _ ?_)
  refine ⟨s.heap.objs.size, _, _, _, es.size, _, _, fun i => ns.getD i 0, rfl, Walks.toS Wk, st0, fun b hb => ?_, vi, fun s' t' mv => ?_⟩
  · have sz : (s.heap.push oi).objs.size = s.heap.objs.size + 1 := size_push' ..
    rcases List.mem_cons.mp hb with e | e
    · rw [e]
      exact Nat.lt_of_lt_of_eq (Nat.lt_succ_self _) sz.symm
    · have e2 : b = a := by simpa using e
      rw [e2]
      exact Nat.lt_of_lt_of_eq (Nat.lt_succ_of_lt hd2) sz.symm
  · have I2 : Inv X pins σ H { s with heap := s'.heap, toks := s'.toks } := I.kept (t' := s'.toks) fun b o eb => mv.heap b o (fun z => Nat.ne_of_lt (Heap.lt_size eb) (by simpa using z)) (Heap.get?_push_of_some _ eb)
    have e : s' = { s with heap := s'.heap, toks := s'.toks } := by
      obtain ⟨_, h2, h3, h4, _⟩ := mv
      obtain ⟨hp, gg, dd, oo, tt⟩ := s'
      simp only at h2 h3 h4
      subst h2 h3 h4
      rfl
    rw [tot]
    exact ⟨.int ns.sum, H, by rw [e]; exact I2, ⟨t', rfl⟩, fin⟩
def sumValsM (a : ME) : ME := fun sv h => (a sv h).bind fun x h1 => match dictT h1 x with
  | some (_, vs) => (match allIt vs with
    | some ns => .ok (.int ns.sum) h1
    | none => .bad)
  | none => .bad
theorem re_sumVals (hc : X.calm = true) (he : RE X g W e m) (hg : Gl X "sum") (hm : X.mg "sum" = none) (hbase : attributeBase e "values" X.env (eval e X.env) = eval e X.env := by rfl) (hline : (apos.endLine == cpos.line) = true := by rfl)
    (hst : starEach [.Call (.Attribute e "values" apos) [] [] cpos] X.env = (false, eval (.Call (.Attribute e "values" apos) [] [] cpos) X.env) :: starEach [] X.env := by rfl) :
    RE X g W (.Call (.Name "sum" p) [.Call (.Attribute e "values" apos) [] [] cpos] [] pos) (sumValsM m) :=
  pe_imp (pe_callB (call_sumVw hc) hg hm boot_sum (pa_cons (pe_valsT he hbase hline) pa_nil) (by decide) (by decide) hst (by rfl)) fun σ H Q ⟨w, sv, h, rs, hk, pp⟩ => by
    refine seqG' rs hk pp fun w1 H1 h1 v y e1 rs1 k1 r1 p1 => ?_
    split at p1
    · rename_i ks vs ed
      split at p1
      · rename_i ns en
        obtain ⟨a, kvs, rfl, h2, _, h3⟩ := dictT_ok k1 ed r1
        refine ⟨a, kvs, rfl, h2, fun q hq => ?_⟩
        have ne : a ≠ q := by
          rcases h2 with z | ⟨o, z⟩
          · exact ne_of_none z hq
          · exact ne_of_none z hq
        have ex := Ext.grow (o := VwO q a) k1 hq
        have kk := Hk.grow (o := VwO q a) k1 hq
        have evs := allIt_ok en
        subst evs
        refine ⟨q, a, kvs, ns, rfl, upd_same, ?_, RVs.ints h3, ?_⟩
        · rcases h2 with z | ⟨o, z⟩
          · exact .inl (by rw [upd_ne ne]; exact z)
          · exact .inr ⟨o, by rw [upd_ne ne]; exact z⟩
        · exact post_int (Post.mono ex p1) kk
      · exact p1.elim
    · exact p1.elim
end

/-! ### d.update(d2) -/
theorem KT.mergeT {H : Hp} : ∀ {more kvs : List (List Key × V)} {xs ys : List (List Key × Addr × Value)}, KT H more ys → KT H kvs xs → KT H (mergeT kvs more) (storedAllH xs ys)
  | [], _, _, _, .nil, r => r
  | p :: more, kvs, xs, _, .cons (b := q) r t, r2 => by
    have h1 : KT H (putK kvs p.1 p.2) (storedH xs p.1 q.2.1 q.2.2) := KT.put r2 p.1 r.2.1 r.2.2
    rw [r.1] at h1
    have h2 := KT.mergeT t h1
    show KT H (Mv.mergeT (putK kvs p.1 p.2) more) _
    rw [r.1]
    exact h2
section
variable {X : Cx} {o e : Expr} {apos cpos : Pos} {td ty : TE}
theorem pe_updT (hu : X.A.units + 1 < cLine) (ho : PE X o td) (he : PE X e ty) (m : M1 X o "update" apos e cpos) : PE X (.Call (.Attribute o "update" apos) [e] [] cpos) (fun σ H Q => td σ H fun x H1 => ∃ a, x = .ref a ∧ IsD H1 a ∧ ty σ H1 fun y H2 =>
    ∃ b fz kvs more, y = .ref b ∧ H2 a = some (.dT kvs) ∧ H2 b = some (.frz fz (.dT more)) ∧ kvs ≠ [] ∧ kvs.length + more.length ≤ 100000 ∧ Q .non (upd H2 a (.dT (mergeT kvs more)))) := by
  refine ⟨fun pins s σ H Q I h => ?_⟩
  refine wpAny_Call_method m.base m.few m.line PySem.F.plainAttrs_dict PySem.F.slot_dict_update PySem.F.type_dict_update (thn (ho.run pins s σ H _ I h) fun u s1 ⟨x, H1, I1, rx, a, ex, d, q1⟩ => ?_)
  subst ex
  obtain rfl : u = Value.ref a := rx
  obtain ⟨t1, t2, _⟩ := isD_at I1 d
  refine ⟨t1, t2, ?_⟩
  rw [m.trees]
  refine Calls.callWith_builtin rfl (Calls.evalArgs_plain (Calls.spliced_cons (thn (he.run pins s1 σ H1 _ I1 q1) fun iv s2 ⟨y, H2, I2, ry, b, fz, kvs, more, ey, ha, hb, ne, hlen, q2⟩ => Calls.spliced_nil ?_)))
  subst ey
  obtain rfl : iv = Value.ref b := ry
  obtain ⟨z, hd, xs, rel, dd⟩ := dt_of I2.hok ha
  obtain ⟨z2, hd2, ys, rel2, dd2⟩ := dt_rd I2.hok (.inr ⟨fz, hb⟩)
  have nab : a ≠ b := fun c => by
    rw [c, hb] at ha
    cases ha
  have ne2 : xs ≠ [] := fun c => by
    have e := Paired.length rel
    rw [c] at e
    exact ne (List.length_eq_zero_iff.mp e)
  have l1 := Paired.length rel
  have l2 := Paired.length rel2
  refine call_update_dictH (tupleKind_room_in1 hu) nab hd2 dd dd2 (.inl ne2) (by rw [sizeLine_eq]; omega) fun h' dd' dd2' sb => ?_
  obtain ⟨ob, es, ep, g1, g2, g3, g4, g5, g6⟩ := dd'
  have hl : (mergeT kvs more).length ≤ sizeLine := by
    have e := length_mergeT more kvs
    rw [sizeLine_eq]
    omega
  refine ⟨.non, upd H2 a (.dT (mergeT kvs more)), ?_, rfl, q2⟩
  refine d_write I2 (by rw [ha]; exact True.intro) sb ⟨ob, g1⟩ ⟨hl, hd, _, (KT.mergeT rel2 rel).keeps fun c ys ec => ?_, ob, es, ep, g1, g2, g3, g4, g6⟩
  rw [upd_ne (ne_of ec ha (fun z => nomatch z))]
  exact ec
end
end Mv
set_option Elab.async false
set_option linter.all false
set_option maxRecDepth 100000
/-! Mv, part BD: d.update(d2) and {(..): v} of one's own, in the small heap. -/
namespace Mv
open PySem PySem.Spec PyProof.Rows L2

/-! ### the guarded dict goes over into the small heap -/
section
variable {K : PySem.W.Frag} {g : Gx} {w w2 : Wd} {H H2 : Hp} {h h2 : VH} {D : Addr} {vo : VO}
theorem adopt_mut (hP : w2.P = (w.guard D).P) {a : Addr} (z : ((w2.bare w.P).push D).mut a) : w2.mut a := by
  rcases z with z | z | z
  · unfold Wd.push at z
    rcases List.mem_append.mp z with z | z
    · exact .inl z
    · have e : a = D := by simpa using z
      exact .inr (.inl (by rw [hP, e]; exact .inr rfl))
  · exact .inr (.inl (by rw [hP]; exact .inl z))
  · exact .inr (.inr z)
theorem adopt_at {n : Nat} (hn : n < w2.phi.length) : ((w2.bare w.P).push D).phi[n]? = w2.phi[n]? := by
  unfold Wd.push
  exact List.getElem?_append_left hn
theorem adopt_sees (hP : w2.P = (w.guard D).P) : Sees w2 H2 ((w2.bare w.P).push D) H2 where
  keep := fun a u q m => ⟨q, fun z => m (adopt_mut hP z)⟩
  refs := fun n b hn q => by rw [adopt_at hn] at q; exact q
  len := by
    unfold Wd.push
    show w2.phi.length ≤ (w2.phi ++ [some D]).length
    simp
theorem adopt_ext (gd : Gd w H D w2 H2) : Ext w H ((w2.bare w.P).push D) H2 where
  keep := fun a u q m => let ⟨h1, h2⟩ := gd.keep a u q m; ⟨h1, fun z => h2 (adopt_mut gd.P z)⟩
  refs := fun n b hn q => gd.refs n b hn (by rw [adopt_at (Nat.lt_of_lt_of_le hn gd.len)] at q; exact q)
  len := Nat.le_trans gd.len (adopt_sees (H2 := H2) gd.P).len
  P := rfl
  O := gd.O
  prot := gd.prot
theorem adopt_hk (k0 : Hk K g.adr w h H) (hD : H D = none) (hP : w2.P = (w.guard D).P) (k : Hk K g.adr w2 h2 H2) (r : RO K g.adr ((w2.bare w.P).push D) H2 vo D) : Hk K g.adr ((w2.bare w.P).push D) (h2 ++ [vo]) H2 := by
  have pD : w2.P D := by rw [hP]; exact .inr rfl
  have nD : some D ∉ w2.phi := (k.prot D (.inl pD)).2
  have key : ∀ (i : Nat) (a : Addr), ((w2.bare w.P).push D).phi[i]? = some (some a) → (i < w2.phi.length ∧ w2.phi[i]? = some (some a)) ∨ (i = w2.phi.length ∧ a = D) := fun i a hi => by
    by_cases c : i < w2.phi.length
    · rw [adopt_at c] at hi
      exact .inl ⟨c, hi⟩
    · have hi2 : (w2.phi ++ [some D])[i]? = some (some a) := hi
      have lt := (List.getElem?_eq_some_iff.mp hi2).1
      have e : i = w2.phi.length := by
        have l1 : (w2.phi ++ [some D]).length = w2.phi.length + 1 := by simp
        omega
      subst e
      simp at hi2
      exact .inr ⟨rfl, hi2.symm⟩
  refine ⟨?_, ?_, ?_, ?_, ?_, ?_, k.ownI, ?_⟩
  · show (w2.phi ++ [some D]).length = (h2 ++ [vo]).length
    simp [k.len]
  · intro n m a hn hm
    rcases key n a hn with ⟨c1, e1⟩ | ⟨c1, e1⟩ <;> rcases key m a hm with ⟨c2, e2⟩ | ⟨c2, e2⟩
    · exact k.inj n m a e1 e2
    · subst e2; exact (nD (List.mem_of_getElem? e1)).elim
    · subst e1; exact (nD (List.mem_of_getElem? e2)).elim
    · omega
  · intro n a hn
    rcases key n a hn with ⟨c1, e1⟩ | ⟨c1, e1⟩
    · obtain ⟨u, q1, q2⟩ := k.obj n a e1
      exact ⟨u, by rw [List.getElem?_append_left (by rw [← k.len]; exact c1)]; exact q1, RO.mono (adopt_sees hP) u a (fun z q => q) q2⟩
    · subst e1
      have en : n = h2.length := by rw [← k.len]; exact c1
      exact ⟨vo, by rw [en]; simp, r⟩
  · intro n u hn hd
    by_cases c : n < h2.length
    · rw [List.getElem?_append_left c] at hn
      obtain ⟨a, ha⟩ := k.has n u hn hd
      exact ⟨a, by rw [adopt_at (by rw [k.len]; exact c)]; exact ha⟩
    · have c2 := (List.getElem?_eq_some_iff.mp hn).1
      rw [List.length_append, List.length_singleton] at c2
      have en : n = w2.phi.length := by rw [k.len]; omega
      refine ⟨D, ?_⟩
      show (w2.phi ++ [some D])[n]? = some (some D)
      rw [en]
      simp
  · intro a ha
    have ha2 : w2.P a ∨ some a ∈ w2.O := by
      rcases ha with z | z
      · exact .inl (by rw [hP]; exact .inl z)
      · exact .inr z
    obtain ⟨q1, q2⟩ := k.prot a ha2
    refine ⟨q1, fun z => ?_⟩
    rcases List.mem_append.mp (show some a ∈ w2.phi ++ [some D] from z) with z | z
    · exact q2 z
    · have e : a = D := by simpa using z
      subst e
      rcases ha with y | y
      · exact k0.live (.inr (.inl y)) hD
      · exact k.own a pD y
  · intro a ha
    exact k.own a (by rw [hP]; exact .inl ha)
  · intro a u e
    have s := k.spc a u e
    cases u with
    | tbl _ =>
      show some a ∈ w2.phi ++ [some D]
      exact List.mem_append_left _ s
    | ext _ => exact fun x z => s x (adopt_mut hP z)
    | tup _ => exact fun z => s (adopt_mut hP z)
    | _ => trivial
end
section
variable {X : Cx} {g : Gx} {W : WX}
/-- {(..): v, ..} of one's own -/
def ownTM (l : List (ME × ME)) : ME := fun sv h => (pairsGo l sv h).bind fun ps h1 => if Nat.ble ps.length 15 then (match putAllT ps ([], []) with
  | some d => .ok (.ref h1.length) (h1 ++ [.dtt d.1 d.2])
  | none => .bad) else .bad
theorem re_ownT {pos : Pos} {keys : List (Option Expr)} {values : List Expr} {l : List (ME × ME)} {k : Nat} (hr : Room k X.A) (h : RPs X g W pos keys values l) (hall : keys.all (·.isSome) = true := by rfl) (hl : keys.length = values.length := by rfl) (h0 : keys ≠ [] := by simp) (h15 : keys.length ≤ 15 := by decide) : RE X g W (.Dict keys values pos) (ownTM l) :=
  pe_imp (pe_dispT (Room.u1 hr) h hall hl h0 h15) fun σ H Q ⟨w, sv, hh, rs, hk, p⟩ => by
    intro D hD
    refine pairs_imp (w0 := w) (H0 := H) (σ0 := σ) (Q := Q) l (k := fun ps h1 => if Nat.ble ps.length 15 then (match putAllT ps ([], []) with | some d => .ok (.ref h1.length) (h1 ++ [.dtt d.1 d.2]) | none => .bad) else .bad) (rs.mono _ _ (guard_sees hk hD)) (guard_hk hk hD) p fun w1 H1 h1 ps psV e1 k1 r1 p1 => ?_
    have gd : Gd w H D w1 H1 := (Gd.start hk hD).ext e1
    have hD1 : H1 D = some (.dT []) := (e1.prot D (.inl (.inr rfl))).trans upd_same
    by_cases c : Nat.ble ps.length 15 = true
    · rw [if_pos c] at p1
      split at p1
      · rename_i d ed
        obtain ⟨more, e2, e3, e4⟩ := putAllT_ok (kvs := []) r1 ed rfl (by simp [RVs])
        have hlen : more.length ≤ 15 := by
          have q1 := relPs_len r1
          have q2 := Paired.length e2
          have c2 := Nat.le_of_ble_eq_true c
          omega
        refine ⟨hD1, more, e2, hlen, ?_⟩
        have sg : Sees w1 H1 w1 (upd H1 D (.dT (mergeT [] more))) := guard_set_sees gd.P
        have gd2 := gd.set (o := .dT (mergeT [] more)) hk hD
        have k2 := guard_set_hk (o := .dT (mergeT [] more)) gd.P k1
        have kN : Hk X.K g.adr ((w1.bare w.P).push D) (h1 ++ [.dtt d.1 d.2]) (upd H1 D (.dT (mergeT [] more))) := adopt_hk hk hD gd2.P k2 ⟨_, upd_same, e3, RVs.mono (sg.trans (adopt_sees gd2.P)) _ _ e4⟩
        refine p1 _ _ _ (adopt_ext gd2) kN ?_
        simp only [relV, RV]
        have lp : ((w1.bare w.P).push D).phi.length = h1.length + 1 := by rw [kN.len]; simp
        refine ⟨D, rfl, by rw [lp]; omega, fun b hb => ?_⟩
        have hb2 : (w1.phi ++ [some D])[h1.length]? = some (some b) := hb
        rw [← k1.len] at hb2
        simp at hb2
        exact hb2.symm
      · exact p1.elim
    · rw [if_neg c] at p1
      exact p1.elim
/-! ### d.update(d2) -/
theorem vvK_inj : ∀ {a b : List Key}, a.map vvK = b.map vvK → a = b
  | [], [], _ => rfl
  | [], _ :: _, e => by simp at e
  | _ :: _, [], e => by simp at e
  | x :: a, y :: b, e => by
    rw [List.map_cons, List.map_cons, List.cons.injEq] at e
    have ih := vvK_inj e.2
    subst ih
    cases x <;> cases y <;> simp only [vvK, VV.int.injEq, VV.str.injEq, reduceCtorEq] at e <;> first | rw [e.1] | exact e.1.elim
theorem refset_extE {K : PySem.W.Frag} {w : Wd} {H : Hp} {h : VH} {n : Nat} {a : Addr} {o : HO} (k : Hk K g.adr w h H) (hn : w.phi[n]? = some (some a)) : Ext w H w (upd H a o) where
  keep := (ownset_sees (.inl (List.mem_of_getElem? hn))).keep
  refs := fun _ _ _ q => q
  len := Nat.le_refl _
  P := rfl
  O := rfl
  prot := fun b hb => upd_ne fun e => (k.prot b hb).2 (by rw [e]; exact List.mem_of_getElem? hn)
def mergeV : List VV → List VV → List VV × List VV → Option (List VV × List VV)
  | [], [], d => some d
  | k :: ks, v :: vs, d => (match keyT k with
    | some _ => mergeV ks vs (putT d.1 d.2 k v)
    | none => none)
  | _, _, _ => none
theorem mergeV_ok {K : PySem.W.Frag} {w : Wd} {H : Hp} : ∀ {more kvs : List (List Key × V)} {ks vs : List VV} {d d2 : List VV × List VV}, ks = keysT more → RVs K g.adr w H vs (more.map fun p => p.2) → d.1 = keysT kvs → RVs K g.adr w H d.2 (kvs.map fun p => p.2) → mergeV ks vs d = some d2 →
    d2.1 = keysT (mergeT kvs more) ∧ RVs K g.adr w H d2.2 ((mergeT kvs more).map fun p => p.2)
  | [], kvs, ks, vs, d, d2, ek, rv, a, b, e => by
    subst ek
    simp only [List.map_nil, RVs] at rv
    cases vs with
    | nil =>
      simp only [keysT, List.map_nil, mergeV, Option.some.injEq] at e
      subst e
      exact ⟨a, b⟩
    | cons v vs => simp [keysT, mergeV] at e
  | m :: more, kvs, ks, vs, d, d2, ek, rv, a, b, e => by
    cases vs with
    | nil => subst ek; simp [keysT, mergeV] at e
    | cons v vs =>
      have ek2 : ks = VV.tup (m.1.map vvK) :: keysT more := ek
      subst ek2
      simp only [List.map_cons, RVs] at rv
      obtain ⟨z, rest, ez, r1, r2⟩ := rv
      injection ez with ez1 ez2
      subst ez1 ez2
      simp only [mergeV] at e
      split at e
      · rename_i kk hk
        have hk2 : kk = m.1 := by
          have e1 := of_keyT hk
          injection e1 with e2
          exact (vvK_inj e2).symm
        subst hk2
        obtain ⟨a2, b2⟩ := putT_ok a b hk r1
        exact mergeV_ok (more := more) (kvs := putK kvs m.1 m.2) rfl r2 a2 b2 e
      · cases e
/-! the keys that come are all new, seen at once by a mask of their codes -/
def codeB : VV → Nat
  | .tup xs => xs.foldl (fun c x => c * 64 + codeKy x) 0
  | _ => 0
def maskAll : List VV → Nat → Option Nat
  | [], m => some m
  | k :: ks, m => if Nat.ble (codeB k) 65535 then maskAll ks (m ||| (1 <<< codeB k)) else none
def freshGo : List VV → Nat → Bool
  | [], _ => true
  | k :: ks, m => Nat.ble (codeB k) 65535 && (!Nat.testBit m (codeB k) && freshGo ks (m ||| (1 <<< codeB k)))
def HasAll (kvs : List (List Key × V)) (m : Nat) : Prop := ∀ p ∈ kvs, Nat.testBit m (codeB (.tup (p.1.map vvK))) = true
theorem bit_new (m c : Nat) : Nat.testBit (m ||| (1 <<< c)) c = true := by
  rw [Nat.testBit_or, Nat.testBit_shiftLeft]
  simp
theorem bit_old {m c i : Nat} (h : Nat.testBit m i = true) : Nat.testBit (m ||| (1 <<< c)) i = true := by
  rw [Nat.testBit_or, h, Bool.true_or]
theorem maskAll_bits : ∀ {ks : List VV} {m n : Nat}, maskAll ks m = some n → (∀ i, Nat.testBit m i = true → Nat.testBit n i = true) ∧ ∀ k ∈ ks, Nat.testBit n (codeB k) = true
  | [], m, n, e => by
    simp only [maskAll, Option.some.injEq] at e
    subst e
    exact ⟨fun _ h => h, fun k hk => by cases hk⟩
  | x :: ks, m, n, e => by
    simp only [maskAll] at e
    split at e
    · obtain ⟨h1, h2⟩ := maskAll_bits e
      refine ⟨fun i h => h1 i (bit_old h), fun k hk => ?_⟩
      rcases List.mem_cons.mp hk with z | z
      · subst z
        exact h1 _ (bit_new _ _)
      · exact h2 k z
    · cases e
theorem merge_fresh : ∀ {more kvs : List (List Key × V)} {m : Nat}, HasAll kvs m → freshGo (keysT more) m = true → mergeT kvs more = kvs ++ more
  | [], kvs, m, _, _ => by simp [mergeT]
  | q :: more, kvs, m, ha, e => by
    have e2 : freshGo (VV.tup (q.1.map vvK) :: keysT more) m = true := e
    simp only [freshGo, Bool.and_eq_true, Bool.not_eq_true'] at e2
    obtain ⟨_, e3, e4⟩ := e2
    have no : ¬ (kvs.any fun kv => decide (kv.1 = q.1)) = true := fun z => by
      obtain ⟨p, hp, hq⟩ := List.any_eq_true.mp z
      have h1 := ha p hp
      rw [of_decide_eq_true hq, e3] at h1
      cases h1
    show mergeT (putK kvs q.1 q.2) more = _
    have ep : putK kvs q.1 q.2 = kvs ++ [q] := by
      unfold putK
      rw [if_neg no]
    rw [ep, merge_fresh (m := m ||| (1 <<< codeB (VV.tup (q.1.map vvK)))) (fun p hp => ?_) e4, List.append_assoc]
    · rfl
    · rcases List.mem_append.mp hp with z | z
      · exact bit_old (ha p z)
      · have z2 : p = q := by simpa using z
        subst z2
        exact bit_new _ _
def mergeF (ks vs : List VV) (d : List VV × List VV) : Option (List VV × List VV) := match maskAll d.1 0 with
  | some m => if freshGo ks m then some (d.1 ++ ks, d.2 ++ vs) else mergeV ks vs d
  | none => mergeV ks vs d
theorem mergeF_ok {K : PySem.W.Frag} {w : Wd} {H : Hp} {more kvs : List (List Key × V)} {ks vs : List VV} {d d2 : List VV × List VV} (hk : ks = keysT more) (hv : RVs K g.adr w H vs (more.map fun p => p.2)) (a : d.1 = keysT kvs) (b : RVs K g.adr w H d.2 (kvs.map fun p => p.2)) (e : mergeF ks vs d = some d2) :
    d2.1 = keysT (mergeT kvs more) ∧ RVs K g.adr w H d2.2 ((mergeT kvs more).map fun p => p.2) := by
  unfold mergeF at e
  split at e
  · rename_i m em
    split at e
    · rename_i f
      have ha : HasAll kvs m := fun p hp => (maskAll_bits em).2 _ (by rw [a]; exact List.mem_map.mpr ⟨p, hp, rfl⟩)
      rw [merge_fresh ha (by rw [← hk]; exact f)]
      have e2 := Option.some.inj e
      subst e2
      refine ⟨?_, ?_⟩
      · show d.1 ++ ks = _
        rw [a, hk]
        simp [keysT]
      · rw [List.map_append]
        exact b.app hv
    · exact mergeV_ok hk hv a b e
  · exact mergeV_ok hk hv a b e
def updTM (ma mb : ME) : ME := fun sv h => (ma sv h).bind fun x h1 => match dictT h1 x with
  | some _ => (mb sv h1).bind fun y h2 => match x with
    | .ref n => (match y with
      | .dtt ks2 vs2 => (match h2[n]? with
        | some (.dtt ks vs) => if !ks.isEmpty && Nat.ble (ks.length + ks2.length) 100000 then (match mergeF ks2 vs2 (ks, vs) with
          | some d => .ok .non (h2.set n (.dtt d.1 d.2))
          | none => .bad) else .bad
        | _ => .bad)
      | _ => .bad)
    | _ => .bad
  | none => .bad
theorem re_updT {o e : Expr} {ma mb : ME} {apos cpos : Pos} {k : Nat} (hr : Room k X.A) (ho : RE X g W o ma) (he : RE X g W e mb) (m : M1 X o "update" apos e cpos) : RE X g W (.Call (.Attribute o "update" apos) [e] [] cpos) (updTM ma mb) :=
  pe_imp (pe_updT (Room.u1 hr) ho he m) fun σ H Q ⟨w, sv, h, rs, hk, pp⟩ => by
    refine seqG' rs hk pp fun w1 H1 h1 v y e1 rs1 k1 r1 p1 => ?_
    split at p1
    · rename_i dd ed
      obtain ⟨a, kvs0, rfl, q1, _, _⟩ := dictT_ok (ks := dd.1) (vs := dd.2) k1 ed r1
      refine ⟨a, rfl, .inr ⟨kvs0, q1⟩, ?_⟩
      refine seqG' rs1 k1 p1 fun w2 H2 h2 v2 y2 e2 rs2 k2 r2 p2 => ?_
      split at p2
      · rename_i n
        split at p2
        · rename_i ks2 vs2
          split at p2
          · rename_i ks vs eh
            split at p2
            · rename_i c
              split at p2
              · rename_i d em
                simp only [Bool.and_eq_true, Bool.not_eq_true'] at c
                obtain ⟨c1, c2⟩ := c
                have c2 := Nat.le_of_ble_eq_true c2
                obtain ⟨a2, ea, hn, kvs, ha, hks, rx⟩ := ref_obj k2 (RV.mono e2.sees _ _ r1) eh (fun z => nomatch z)
                cases ea
                simp only [relV, RV] at r2
                obtain ⟨b, more, rfl, ⟨fz, hb, _⟩, hk2, rv2⟩ := r2
                have l1 : ks.length = kvs.length := by rw [hks]; simp [keysT]
                have l2 : ks2.length = more.length := by rw [hk2]; simp [keysT]
                refine ⟨b, fz, kvs, more, rfl, ha, hb, fun z => ?_, by omega, ?_⟩
                · subst z
                  rw [List.length_nil] at l1
                  rw [List.length_eq_zero_iff.mp l1] at c1
                  cases c1
                · obtain ⟨m1, m2⟩ := mergeF_ok (d := (ks, vs)) hk2 rv2 hks rx em
                  have sg : Sees w2 H2 w2 (upd H2 a (.dT (mergeT kvs more))) := refset_sees hn
                  exact p2 w2 _ .non (refset_extE k2 hn) (k2.refsetO hn ⟨_, upd_same, m1, RVs.mono sg _ _ m2⟩) (by simp only [relV, RV])
              · exact p2.elim
            · exact p2.elim
          · exact p2.elim
        · exact p2.elim
      · exact p2.elim
    · exact p1.elim
end
end Mv
set_option Elab.async false
set_option linter.all false
set_option maxRecDepth 100000
/-! Mv, part BE: for x in d.values(), tuple keys too. -/
namespace Mv
open PySem PySem.Spec PyProof.Rows L2

def Itdt (d : Addr) (o : Obj) (kvs : List (List Key × V)) : It :=
  ⟨fun i H => H d = some (.frz o (.dT kvs)) ∧ i < kvs.length, fun i H x H' => H' = H ∧ ∃ k, kvs[i]? = some (k, x), fun i H => H d = some (.frz o (.dT kvs)) ∧ kvs.length ≤ i⟩
section
variable {P : Program} {w : World} {K : PySem.W.Frag} {tg : Expr} {d : Addr} {o : Obj} {es : Array DictEntry} {ep : Nat}
theorem turn_valsT {kvs : List (List Key × V)} (it : Addr) (hod : o.data = .dict es ep) : Turn P w K tg (Itdt d o kvs) [it] it (fun i h => h.IsValIter it d i kvs.length ep) where
  mem := by simp
  obj := fun i h st b hb => by
    have e : b = it := by simpa using hb
    subst e
    obtain ⟨oi, e, _, dd⟩ := st
    exact ⟨oi, e, fun v z => by rw [dd] at z; cases z⟩
  keep := fun i h h' st k => st.at fun oi e => k it (by simp) oi e
  item := by
    intro X hP hw hK hc i pins s σ H E I hf st hg
    subst hP hw hK
    obtain ⟨hd, hi⟩ := hg
    obtain ⟨f0, f1, f2, f3, f4, f5⟩ := hf it (by simp)
    obtain ⟨hs, hgd, hx, es', ep', hdt, hsz, ent⟩ := frzT_val I hd
    obtain ⟨rfl, rfl⟩ := dict_ep hod hdt
    obtain ⟨⟨k, v⟩, hkv⟩ : ∃ p, kvs[i]? = some p := ⟨kvs[i], List.getElem?_eq_getElem hi⟩
    obtain ⟨en, qk, hen, _, _, rv⟩ := ent i k v hkv
    have hi2 : i < es'.size := by omega
    have eg : es'[i] = en := by
      rw [Array.getElem?_eq_getElem hi2] at hen
      exact Option.some.inj hen
    rw [← hsz] at st
    refine wpAny_pyNext_values_item_raw st ⟨o, hgd, hx, hdt⟩ hi2 fun h' st' sb => ?_
    have I1 : Inv X pins σ H { s with heap := h' } := I.turned (t' := s.toks) (fun b ob hb e => (sb.2 b hb).trans e) f0 f1 f3 f4 f5
    obtain ⟨oi, e, c, dd⟩ := id st'
    rw [eg]
    refine ⟨en.val, rfl, go_of (s := { s with heap := h' }) e c dd (by decide) ⟨v, H, I1, rv, ⟨rfl, k, hkv⟩, ?_, fun b hb => (hf b hb).1⟩⟩
    show h'.IsValIter it d (i + 1) kvs.length _
    rw [← hsz]
    exact st'
  done := by
    intro X hP hw hK hc i pins s σ H E I hf st hg
    subst hP hw hK
    obtain ⟨hd, hi⟩ := hg
    obtain ⟨f0, f1, f2, f3, f4, f5⟩ := hf it (by simp)
    obtain ⟨hs, hgd, hx, es', ep', hdt, hsz, ent⟩ := frzT_val I hd
    obtain ⟨rfl, rfl⟩ := dict_ep hod hdt
    rw [← hsz] at st
    exact wpAny_pyNext_values_end_raw (I.ok.hd hc) st ⟨o, hgd, hx, hdt⟩ (by omega) fun h' eb => ⟨rfl, I.turned (t' := s.toks) (fun b ob hb e => eb b ob hb e) f0 f1 f3 f4 f5⟩
  self := fun A i s Q E st h => wpAny_pyIter_valiter st h
end
section
variable {K : PySem.W.Frag} {g : Gx} {w : Wd} {H : Hp}
theorem itdt_ok {a : Addr} {o : Obj} {kvs : List (List Key × V)} {vs : List VV} (st : ∀ w1 H1, Sees w H w1 H1 → H1 a = some (.frz o (.dT kvs))) (rv : RVs K g.adr w H vs (kvs.map fun p => p.2)) : ItOk K g w H vs (Itdt a o kvs) where
  step := fun w1 h1 H1 i v s k q => by
    obtain ⟨z, ez, rz⟩ := rv.get i v q
    rw [List.getElem?_map] at ez
    cases eq : kvs[i]? with
    | none => rw [eq] at ez; cases ez
    | some p =>
      rw [eq] at ez
      have hz := Option.some.inj ez
      subst hz
      refine ⟨⟨st w1 H1 s, (List.getElem?_eq_some_iff.mp eq).1⟩, fun x H2 hy => ?_⟩
      obtain ⟨e2, k2, e3⟩ := hy
      subst e2
      rw [eq] at e3
      cases e3
      exact ⟨Ext.refl _ _, k, RV.mono s _ _ rz⟩
  stop := fun w1 H1 s => ⟨st w1 H1 s, by have e := rv.length; rw [List.length_map] at e; omega⟩
end
section
variable {X : Cx} {tg e : Expr} {td : TE} {apos cpos : Pos}
theorem pi_valsA (he : PE X e td) (hbase : attributeBase e "values" X.env (eval e X.env) = eval e X.env) (hline : (apos.endLine == cpos.line) = true) : PI X tg (.Call (.Attribute e "values" apos) [] [] cpos)
    (fun σ H R => td σ H fun x H1 => ∃ d o, x = .ref d ∧ ((∃ kvs, H1 d = some (.frz o (.dK kvs)) ∧ R (Itd d o kvs) H1) ∨ ∃ kvs, H1 d = some (.frz o (.dT kvs)) ∧ R (Itdt d o kvs) H1)) := by
  refine ⟨fun pins s σ H R I h => ?_⟩
  refine wpAny_Call_method (T := "dict") (id := "dict.values") hbase rfl hline PySem.F.plainAttrs_dict PySem.F.slot_dict_values PySem.F.type_dict_values (thn (he.run pins s σ H _ I h) fun u s1 ⟨x, H1, I1, rx, d, o, ex, q⟩ => ?_)
  subst ex
  obtain rfl : u = Value.ref d := rx
  have at2 : ∀ {es : Array DictEntry} {ep n : Nat} {J : It}, (d == sysModules) = false → s1.heap.get? d = some o → o.ExactDict → o.data = .dict es ep → es.size = n → Turn X.prog X.w X.K tg J [s1.heap.objs.size + 1] (s1.heap.objs.size + 1) (fun i h => h.IsValIter (s1.heap.objs.size + 1) d i n ep) → R J H1 →
      s1.TypeIs (.ref d) "dict" ∧ (∀ b, Value.ref d = .ref b → ∃ ob, s1.heap.get? b = some ob ∧ ob.dict = none) ∧ wpAny (model X.prog X.w) X.A (callWith cpos (.builtin "dict.values") [.ref d] [] []) (fun v s2 => wpAny (model X.prog X.w) X.A (pyIter v) (PIE X pins σ tg R) X.xe s2) X.xe s1 := by
    intro es ep n J hs hgd hx hdt hn T q
    subst hn
    refine ⟨⟨o, hgd, hx.1⟩, fun b eb => by cases eb; exact ⟨o, hgd, hx.2.1⟩, ?_⟩
    have I2 : Inv X pins σ H1 { s1 with heap := s1.heap.push { cls := .type "dict_values", data := .fields #[.ref d] } } := I1.kept (t' := s1.toks) fun b ob e => Heap.get?_push_of_some _ e
    have sz : (s1.heap.push { cls := .type "dict_values", data := .fields #[.ref d] }).objs.size = s1.heap.objs.size + 1 := size_push' ..
    have fin : wpAny (model X.prog X.w) X.A (pyIter (.ref s1.heap.objs.size)) (PIE X pins σ tg R) X.xe { s1 with heap := s1.heap.push { cls := .type "dict_values", data := .fields #[.ref d] } } := by
      refine wpAny_pyIter_values_raw (d := d) ⟨_, Heap.get?_push_size _ rfl, rfl, rfl⟩ ⟨o, Heap.get?_push_of_some _ hgd, hx, hdt⟩ (pi_one (tk := s1.toks) I2 _ (by rw [sz]; exact T) ?_ q)
      have g1 := Heap.get?_push_size (s1.heap.push { cls := .type "dict_values", data := .fields #[.ref d] }) (o := { cls := .type "dict_valueiterator", data := .fields #[.ref d, .int 0 0, .int es.size 0, .int ep 0] }) rfl
      rw [sz] at g1
      exact ⟨_, g1, rfl, rfl⟩
    exact method_meetsIn PySem.F.slot_dict_values PySem.F.entry_dict_values rfl (PySem.evalArgs_none ⟨rfl, ⟨o, hgd, hx.1⟩, PySem.F.args_dict_values_1 _, _, meets_dict_values_raw d hs, ⟨es, ep, ⟨o, hgd, hx, hdt⟩⟩, fin⟩)
  rcases q with ⟨kvs, hd, q⟩ | ⟨kvs, hd, q⟩
  · obtain ⟨hs, hgd, hx, es, ep, vs, hdt, hsz, kv, hm⟩ := I1.frzK hd
    exact at2 hs hgd hx hdt hsz (turn_vals _ hdt) q
  · obtain ⟨hs, hgd, hx, es, ep, hdt, hsz, ent⟩ := frzT_val I1 hd
    exact at2 hs hgd hx hdt hsz (turn_valsT _ hdt) q
variable {g : Gx} {W : WX} {m : ME}
def valsAI (a : ME) : MI := fun sv h => (a sv h).bind fun x h1 => match x with
  | .dct _ vs => .ok vs h1
  | .dtt _ vs => .ok vs h1
  | _ => .bad
theorem ri_valsA (ha : RE X g W e m) (hbase : attributeBase e "values" X.env (eval e X.env) = eval e X.env := by rfl) (hline : (apos.endLine == cpos.line) = true := by rfl) : RI X g W tg (.Call (.Attribute e "values" apos) [] [] cpos) (valsAI m) :=
  pi_imp (pi_valsA ha hbase hline) fun σ H R ⟨w, sv, h, rs, hk, p⟩ => by
    refine seqG' rs hk p fun w1 H1 h1 v y e1 rs1 k1 r1 p1 => ?_
    split at p1
    · simp only [relV, RV] at r1
      obtain ⟨a, kvs, rfl, ⟨o, q1, q2⟩, rk, rv⟩ := r1
      exact ⟨a, o, rfl, .inl ⟨kvs, q1, Post.here p1 k1 (itd_ok (fun w2 H2 s => (s.keep a _ q1 q2).1) rv)⟩⟩
    · simp only [relV, RV] at r1
      obtain ⟨a, kvs, rfl, ⟨o, q1, q2⟩, rk, rv⟩ := r1
      exact ⟨a, o, rfl, .inr ⟨kvs, q1, Post.here p1 k1 (itdt_ok (fun w2 H2 s => (s.keep a _ q1 q2).1) rv)⟩⟩
    · exact p1.elim
end
end Mv
set_option Elab.async false
set_option linter.all false
set_option maxRecDepth 100000
/-! Mv, part BF: x, y = e, [] and x, y = [], [] where lists of one's own come to be. -/
namespace Mv
open PySem PySem.Spec PyProof.Rows L2
/-- x, y = e, []: y one's own -/
def asgVO2 (i j : Nat) (a : ME) : MS := fun sl h => (a (view sl) h).toS sl fun v h1 => .nx ((sl.set j (.own [])).set i (.val v)) h1
/-- x, y = [], []: both one's own; the first alone; the second alone is asgVO2 -/
def asgOO2 (i j : Nat) : MS := fun sl h => .nx ((sl.set i (.own [])).set j (.own [])) h
def asgOL2 (i j : Nat) : MS := fun sl h => .nx ((sl.set i (.own [])).set j (.val (.lst []))) h
section
variable {X : Cx} {g : Gx} {W : WX} {e : Expr} {me : ME} {i j : Nat} {x y : Str} {px py p1 p2 pt pt2 pos : Pos} {kt k2 : Nat}
theorem rs_asgVO2 (i j : Nat) (nd : X.N.Nodup) (hpe : RE X g W e me) (hc : X.calm = true := by rfl) (hi : X.N[i]? = some x := by rfl) (hj : X.N[j]? = some y := by rfl) (hij : i ≠ j := by decide)
    (hx : Loc X.env.scope x := by first | exact Or.inl rfl | exact Or.inr rfl) (hy : Loc X.env.scope y := by first | exact Or.inl rfl | exact Or.inr rfl)
    (fx : X.fn x = true ∨ X.env.scope.names.lookup x = some .local := by first | exact .inl rfl | exact .inr rfl) (fy : X.fn y = true ∨ X.env.scope.names.lookup y = some .local := by first | exact .inl rfl | exact .inr rfl)
    (s1 : starEach (e :: [.List [] p1]) X.env = (false, eval e X.env) :: starEach [.List [] p1] X.env := by rfl)
    (hs : swapsWithSole [.Tuple [.Name x px, .Name y py] kt pt] (.Tuple [e, .List [] p1] k2 pt2) pos.line X.env = pure false := by rfl)
    (hw : swappedStores [.Tuple [.Name x px, .Name y py] kt pt] (.Tuple [e, .List [] p1] k2 pt2) X.env = pure none := by rfl) :
    RS X g W (.Assign [.Tuple [.Name x px, .Name y py] kt pt] (.Tuple [e, .List [] p1] k2 pt2) pos) (asgVO2 i j me) := by
  have tg := pg_tup (X := X) (k := kt) (pos := pt) hc (pgs_cons (pg_name (pos := px) nd hi hx fx) (pgs_cons (pg_name (pos := py) nd hj hy fy) pgs_nil))
  have rh := pe_tup (X := X) (x1 := k2) (pos := pt2) (pa_cons hpe (pa_cons (pe_lst (pos := p1) pa_nil) pa_nil) s1)
  refine ps_imp (ps_asg rh tg hs hw) fun D σ H ⟨w, sl, h, f, k, p⟩ => ?_
  refine seqS f k p fun w1 H1 h1 v u e1 f1 k1 r1 q => ?_
  refine ⟨by rw [sizeLine_eq]; simp, fun a ha => ⟨by rw [sizeLine_eq]; simp, fun c hc2 => ?_⟩⟩
  have f2 := f1.mkOwn (i := j) (xs := []) (ys := []) ha (by simp [RVs])
  have k3 := k1.mkOwn (i := j) (o := .lst []) ha
  have x2 := own_ext (i := j) (o := .lst []) k1 ha
  have x4 : Ext _ _ _ _ := Ext.grow (o := .tup [u, .ref a]) k3 hc2
  have k4 := Hk.grow (o := .tup [u, .ref a]) k3 hc2
  have f4 := f2.mono x4
  have r4 := RV.mono (x2.trans x4.toS).sees _ _ r1
  have f5 := f4.setv (i := i) r4
  have k5 := k4.drop (i := i)
  have x5 := drop_ext (w := w1.own j a) (H := upd (upd H1 a (.lst [])) c (.tup [u, .ref a])) (i := i)
  refine ⟨c, [u, .ref a], rfl, .inl (.inl upd_same), rfl, u, [.ref a], rfl, .ref a, [], rfl, rfl, ?_⟩
  have q2 := q _ _ _ (x2.trans (x4.toS.trans x5)) k5 f5
  rw [List.set_comm _ _ (Ne.symm hij)] at q2
  exact q2
theorem rs_asgOO2 (i j : Nat) (nd : X.N.Nodup) (hc : X.calm = true := by rfl) (hi : X.N[i]? = some x := by rfl) (hj : X.N[j]? = some y := by rfl) (hij : i ≠ j := by decide)
    (hx : Loc X.env.scope x := by first | exact Or.inl rfl | exact Or.inr rfl) (hy : Loc X.env.scope y := by first | exact Or.inl rfl | exact Or.inr rfl)
    (fx : X.fn x = true ∨ X.env.scope.names.lookup x = some .local := by first | exact .inl rfl | exact .inr rfl) (fy : X.fn y = true ∨ X.env.scope.names.lookup y = some .local := by first | exact .inl rfl | exact .inr rfl)
    (hs : swapsWithSole [.Tuple [.Name x px, .Name y py] kt pt] (.Tuple [.List [] p2, .List [] p1] k2 pt2) pos.line X.env = pure false := by rfl)
    (hw : swappedStores [.Tuple [.Name x px, .Name y py] kt pt] (.Tuple [.List [] p2, .List [] p1] k2 pt2) X.env = pure none := by rfl) :
    RS X g W (.Assign [.Tuple [.Name x px, .Name y py] kt pt] (.Tuple [.List [] p2, .List [] p1] k2 pt2) pos) (asgOO2 i j) := by
  have tg := pg_tup (X := X) (k := kt) (pos := pt) hc (pgs_cons (pg_name (pos := px) nd hi hx fx) (pgs_cons (pg_name (pos := py) nd hj hy fy) pgs_nil))
  have rh := pe_tup (X := X) (x1 := k2) (pos := pt2) (pa_cons (pe_lst (pos := p2) pa_nil) (pa_cons (pe_lst (pos := p1) pa_nil) pa_nil))
  refine ps_imp (ps_asg rh tg hs hw) fun D σ H ⟨w, sl, h, f, k, q⟩ => ?_
  refine ⟨by rw [sizeLine_eq]; simp, fun a ha => ⟨by rw [sizeLine_eq]; simp, fun b hb => ⟨by rw [sizeLine_eq]; simp, fun c hc2 => ?_⟩⟩⟩
  have f2 := f.mkOwn (i := i) (xs := []) (ys := []) ha (by simp [RVs])
  have k2' := k.mkOwn (i := i) (o := .lst []) ha
  have x2 := own_ext (i := i) (o := .lst []) k ha
  have f3 := f2.mkOwn (i := j) (xs := []) (ys := []) hb (by simp [RVs])
  have k3 := k2'.mkOwn (i := j) (o := .lst []) hb
  have x3 := own_ext (i := j) (o := .lst []) k2' hb
  have x4 : Ext _ _ _ _ := Ext.grow (o := .tup [.ref a, .ref b]) k3 hc2
  have k4 := Hk.grow (o := .tup [.ref a, .ref b]) k3 hc2
  have f4 := f3.mono x4
  refine ⟨c, [.ref a, .ref b], rfl, .inl (.inl upd_same), rfl, .ref a, [.ref b], rfl, .ref b, [], rfl, rfl, ?_⟩
  exact q _ _ _ ((x2.trans x3).trans x4.toS) k4 f4
theorem rs_asgOL2 (i j : Nat) (nd : X.N.Nodup) (hc : X.calm = true := by rfl) (hi : X.N[i]? = some x := by rfl) (hj : X.N[j]? = some y := by rfl) (hij : i ≠ j := by decide)
    (hx : Loc X.env.scope x := by first | exact Or.inl rfl | exact Or.inr rfl) (hy : Loc X.env.scope y := by first | exact Or.inl rfl | exact Or.inr rfl)
    (fx : X.fn x = true ∨ X.env.scope.names.lookup x = some .local := by first | exact .inl rfl | exact .inr rfl) (fy : X.fn y = true ∨ X.env.scope.names.lookup y = some .local := by first | exact .inl rfl | exact .inr rfl)
    (hs : swapsWithSole [.Tuple [.Name x px, .Name y py] kt pt] (.Tuple [.List [] p2, .List [] p1] k2 pt2) pos.line X.env = pure false := by rfl)
    (hw : swappedStores [.Tuple [.Name x px, .Name y py] kt pt] (.Tuple [.List [] p2, .List [] p1] k2 pt2) X.env = pure none := by rfl) :
    RS X g W (.Assign [.Tuple [.Name x px, .Name y py] kt pt] (.Tuple [.List [] p2, .List [] p1] k2 pt2) pos) (asgOL2 i j) := by
  have tg := pg_tup (X := X) (k := kt) (pos := pt) hc (pgs_cons (pg_name (pos := px) nd hi hx fx) (pgs_cons (pg_name (pos := py) nd hj hy fy) pgs_nil))
  have rh := pe_tup (X := X) (x1 := k2) (pos := pt2) (pa_cons (pe_lst (pos := p2) pa_nil) (pa_cons (pe_lst (pos := p1) pa_nil) pa_nil))
  refine ps_imp (ps_asg rh tg hs hw) fun D σ H ⟨w, sl, h, f, k, q⟩ => ?_
  refine ⟨by rw [sizeLine_eq]; simp, fun a ha => ⟨by rw [sizeLine_eq]; simp, fun b hb => ⟨by rw [sizeLine_eq]; simp, fun c hc2 => ?_⟩⟩⟩
  have f2 := f.mkOwn (i := i) (xs := []) (ys := []) ha (by simp [RVs])
  have k2' := k.mkOwn (i := i) (o := .lst []) ha
  have x2 := own_ext (i := i) (o := .lst []) k ha
  have x3 : Ext (w.own i a) (upd H a (.lst [])) (w.own i a) (upd (upd H a (.lst [])) b (.lst [])) := Ext.grow k2' hb
  have k3 := Hk.grow (o := .lst []) k2' hb
  have f3 := f2.mono x3
  have x4 : Ext (w.own i a) (upd (upd H a (.lst [])) b (.lst [])) (w.own i a) (upd (upd (upd H a (.lst [])) b (.lst [])) c (.tup [.ref a, .ref b])) := Ext.grow k3 hc2
  have k4 := Hk.grow (o := .tup [.ref a, .ref b]) k3 hc2
  have f4 := f3.mono x4
  have rb : RV X.K g.adr (w.own i a) (upd (upd (upd H a (.lst [])) b (.lst [])) c (.tup [.ref a, .ref b])) (.lst []) (.ref b) := RV.lst_of (ys := []) (by rw [upd_ne (ne_of_none upd_same hc2), upd_same]) (k2'.fresh hb) (by simp [RVs])
  have f5 := f4.setv (i := j) rb
  have k5 := k4.drop (i := j)
  have x5 := drop_ext (w := w.own i a) (H := upd (upd (upd H a (.lst [])) b (.lst [])) c (.tup [.ref a, .ref b])) (i := j)
  refine ⟨c, [.ref a, .ref b], rfl, .inl (.inl upd_same), rfl, .ref a, [.ref b], rfl, .ref b, [], rfl, rfl, ?_⟩
  exact q _ _ _ ((x2.trans x3.toS).trans (x4.toS.trans x5)) k5 f5
end
end Mv
set_option Elab.async false
set_option linter.all false
set_option maxRecDepth 100000
/-! Mv, part BG: f-strings of texts. -/
namespace Mv
open PySem PySem.Spec PyProof.Rows L2
def fstrM : List ME → Str → ME
  | [], acc => fun _ h => .ok (.str acc) h
  | m :: r, acc => fun sv h => (m sv h).bind fun x h1 => match x with
    | .str y => if Nat.ble (acc ++ y).length 100000 then fstrM r (acc ++ y) sv h1 else .bad
    | _ => .bad
/-- {x}, a text -/
def fmtM (m : ME) : ME := fun sv h => (m sv h).bind fun x h1 => match x with
  | .str y => if Nat.ble y.length 100000 then .ok (.str y) h1 else .bad
  | _ => .bad
section
variable {X : Cx} {g : Gx} {W : WX}
theorem re_fmt {e : Expr} {m : ME} {pos : Pos} (he : RE X g W e m) : RE X g W (.FormattedValue e (-1) none pos) (fmtM m) :=
  pe_imp (pe_fmt he) fun σ H Q ⟨w, sv, h, rs, hk, pp⟩ => by
    refine seqG' rs hk pp fun w1 H1 h1 v y e1 rs1 k1 r1 p1 => ?_
    split at p1
    · split at p1
      · rename_i z c
        have ey : y = .str z := by simpa only [relV, RV] using r1
        have c2 := Nat.le_of_ble_eq_true c
        exact .inl ⟨z, ey, by rw [sizeLine_eq]; omega, post_str p1 k1⟩
      · exact p1.elim
    · exact p1.elim
inductive RJ (X : Cx) (g : Gx) (W : WX) : List Expr → List ME → Prop where
  | nil : RJ X g W [] []
  | cons {e : Expr} {m : ME} {es : List Expr} {ms : List ME} (h : RE X g W e m) (r : RJ X g W es ms) : RJ X g W (e :: es) (m :: ms)
theorem RJ.pj {es : List Expr} {ms : List ME} (h : RJ X g W es ms) : PJ X es (ms.map fun m => tG X.K g (relV X.K g) m W) := by
  induction h with
  | nil => exact .nil
  | cons h r ih => exact .cons h ih
theorem js_imp {σ : L2.St} {Q : VK} : ∀ (ms : List ME) (acc : Str) {w : Wd} {H : Hp} {sv : Sv} {h : VH}, RSl X.K g w H sv σ → Hk X.K g.adr w h H → Post X.K g (relV X.K g) w H σ Q W (fstrM ms acc sv h) →
    tJs (ms.map fun m => tG X.K g (relV X.K g) m W) acc σ H fun out H1 => Q (.str out) H1
  | [], acc, w, H, sv, h, rs, hk, p => post_str p hk
  | m :: ms, acc, w, H, sv, h, rs, hk, p => by
    refine seqG' rs hk p fun w1 H1 h1 v y e1 rs1 k1 r1 p1 => ?_
    split at p1
    · split at p1
      · rename_i z c
        have ey : y = .str z := by simpa only [relV, RV] using r1
        have c2 := Nat.le_of_ble_eq_true c
        exact ⟨z, ey, by rw [sizeLine_eq]; omega, js_imp ms (acc ++ z) rs1 k1 p1⟩
      · exact p1.elim
    · exact p1.elim
theorem re_fstr {v1 v2 : Expr} {rest : List Expr} {ms : List ME} {pos : Pos} (h : RJ X g W (v1 :: v2 :: rest) ms) : RE X g W (.JoinedStr (v1 :: v2 :: rest) pos) (fstrM ms Str.empty) :=
  pe_imp (pe_joined h.pj) fun σ H Q ⟨w, sv, h, rs, hk, pp⟩ => js_imp ms Str.empty rs hk pp
end
end Mv
set_option Elab.async false
set_option linter.all false
set_option maxRecDepth 100000
/-! Mv, part BH: the head looked at, each address found once. -/
namespace Mv
open PySem PySem.W PySem.Spec PyProof.Rows L2
/-- each address once, by a mask -/
def dedupM : List Addr → Nat → List Addr × Nat
  | [], m => ([], m)
  | a :: r, m => match Nat.testBit m a with
    | true => dedupM r m
    | false => match dedupM r (m ||| (1 <<< a)) with
      | (l, m2) => (a :: l, m2)
def reachM (g : Addr → Option Obj) : Nat → List Addr → Nat → List Addr
  | 0, fr, _ => fr
  | n + 1, fr, m => match dedupM (fr.flatMap fun a => match g a with
      | some o => He.refsD o
      | none => []) m with
    | (l, m2) => fr ++ reachM g n l m2
def asF (g : Addr → Option Obj) (n : Nat) : List Addr := cStatics :: reachM g n [mainGlobals] (1 <<< mainGlobals)
def obsF (n : Nat) (fa : List He.Fa) (fn : List He.DefD) (tf : List He.Defn) (ex : Frag → Bool) (g : Addr → Option Obj) : He.AlX := (He.obsT fa fn [] (He.frT g (asF g n)), ex (He.frT g (asF g n)) && He.tabsB g tf (He.frT g (asF g n)))
theorem saysF_of {n : Nat} {fa : List He.Fa} {fn : List He.DefD} {tf : List He.Defn} {ex : Frag → Bool} {w : World} {h : Heap} (e : obsF n fa fn tf ex h.get? = He.valX fn [] w) : He.SaysX fa fn [] tf ex w h (He.frT h.get? (asF h.get? n)) := by
  have e1 : He.obsT fa fn [] (He.frT h.get? (asF h.get? n)) = He.valT fn [] w := congrArg Prod.fst e
  have e2 : (ex (He.frT h.get? (asF h.get? n)) && He.tabsB h.get? tf (He.frT h.get? (asF h.get? n))) = true := congrArg Prod.snd e
  obtain ⟨i1, i2⟩ := Bool.and_eq_true_iff.mp e2
  have each : ∀ p ∈ tf, codeHdIn (He.frT h.get? (asF h.get? n)) (He.cT (He.frT h.get? (asF h.get? n)) p).1 (He.cT (He.frT h.get? (asF h.get? n)) p).2 = true ∧ ∃ o, h.get? (He.cT (He.frT h.get? (asF h.get? n)) p).2 = some o ∧ He.emptyTab o = true := fun p hp => by
    obtain ⟨j1, j2⟩ := Bool.and_eq_true_iff.mp (List.all_eq_true.mp i2 p hp)
    refine ⟨j1, ?_⟩
    cases q : h.get? (He.cT (He.frT h.get? (asF h.get? n)) p).2 with
    | some o =>
      rw [q] at j2
      exact ⟨o, rfl, j2⟩
    | none =>
      rw [q] at j2
      cases j2
  refine ⟨e1, i1, fun p hp => (each p hp).1, fun p hp => ?_, fun p hp => ?_⟩
  · obtain ⟨_, o, q, z⟩ := each p hp
    exact He.frT_none q z
  · obtain ⟨_, o, q, z⟩ := each p hp
    rw [q, He.emptyTab_eq z]
def hookF (n : Nat) (fa : List He.Fa) (fn : List He.DefD) (tf : List He.Defn) (ex : Frag → Bool) : Hook where
  α := He.AlX
  obs := fun s => obsF n fa fn tf ex s.heap.get?
  val := fun w => He.valX fn [] w
  says := fun w h => ∃ K : Frag, K.In h ∧ He.SaysX fa fn [] tf ex w h K
  of := fun _ _ e => ⟨_, He.frT_in, saysF_of e⟩
  keeps := fun _ _ _ ⟨K, i, c⟩ k => ⟨K, Frag.In.keeps i k, ⟨c.t, c.more, c.hd, c.out, fun p hp => k _ _ (c.empty p hp)⟩⟩
theorem obsF_eq {n : Nat} {fa : List He.Fa} {fn : List He.DefD} {tf : List He.Defn} {ex : Frag → Bool} {g : Addr → Option Obj} {s : Shared} (h : ∀ a, g a = s.heap.get? a) : obsF n fa fn tf ex g = (hookF n fa fn tf ex).obs s := by
  have e : g = s.heap.get? := funext h
  rw [e]
  rfl
end Mv
set_option Elab.async false
set_option linter.all false
set_option maxRecDepth 100000
/-! Mv, part BI: a test that reads lists of one's own; min and max of a list. -/
namespace Mv
open PySem PySem.Spec PyProof.Rows L2
def ifF (c : MT) (a b : MS) : MS := fun sl h => (iceM (fun _ => true) c (viewF sl) h).nox.toS sl fun k h1 => if k then a sl h1 else b sl h1
section
variable {X : Cx} {g : Gx} {W : WX} {pos : Pos} {m m2 : MS}
theorem rs_ifF {c : Expr} {mc : MT} {as bs : List Stmt} (hc : RT X g W c mc) (ha : RSs X g W as m) (hb : RSs X g W bs m2) : RS X g W (.If c as bs pos) (ifF mc m m2) :=
  ps_imp (ps_if hc ha hb) fun D σ H ⟨w, sl, h, f, k, p⟩ => seqF (fun _ _ _ _ _ _ _ r => r) f k p fun w1 H1 h1 v y e1 f1 k1 r1 p1 => by
    have e : v = y := r1
    subst e
    cases v with
    | true => exact iteT ⟨w1, sl, h1, f1, k1, p1⟩
    | false => exact iteF ⟨w1, sl, h1, f1, k1, p1⟩
end
/-! ### min(xs), max(xs) -/
def minL : Int → List Int → Int
  | m, [] => m
  | m, x :: r => minL (if x < m then x else m) r
def maxL : Int → List Int → Int
  | m, [] => m
  | m, x :: r => maxL (if x > m then x else m) r
theorem minL_ok : ∀ (l : List Int) (m : Int), (minL m l = m ∨ minL m l ∈ l) ∧ minL m l ≤ m ∧ ∀ y ∈ l, minL m l ≤ y
  | [], m => ⟨.inl rfl, Int.le_refl _, fun y hy => by cases hy⟩
  | x :: r, m => by
    obtain ⟨h1, h2, h3⟩ := minL_ok r (if x < m then x else m)
    show (minL (if x < m then x else m) r = m ∨ minL (if x < m then x else m) r ∈ x :: r) ∧ minL (if x < m then x else m) r ≤ m ∧ ∀ y ∈ x :: r, minL (if x < m then x else m) r ≤ y
    by_cases c : x < m
    · rw [if_pos c] at h1 h2 h3 ⊢
      refine ⟨.inr ?_, by omega, fun y hy => ?_⟩
      · rcases h1 with e | e
        · rw [e]; exact List.mem_cons_self
        · exact List.mem_cons_of_mem _ e
      · rcases List.mem_cons.mp hy with e | e
        · rw [e]; exact h2
        · exact h3 y e
    · rw [if_neg c] at h1 h2 h3 ⊢
      refine ⟨?_, h2, fun y hy => ?_⟩
      · rcases h1 with e | e
        · exact .inl e
        · exact .inr (List.mem_cons_of_mem _ e)
      · rcases List.mem_cons.mp hy with e | e
        · rw [e]; omega
        · exact h3 y e
theorem maxL_ok : ∀ (l : List Int) (m : Int), (maxL m l = m ∨ maxL m l ∈ l) ∧ m ≤ maxL m l ∧ ∀ y ∈ l, y ≤ maxL m l
  | [], m => ⟨.inl rfl, Int.le_refl _, fun y hy => by cases hy⟩
  | x :: r, m => by
    obtain ⟨h1, h2, h3⟩ := maxL_ok r (if x > m then x else m)
    show (maxL (if x > m then x else m) r = m ∨ maxL (if x > m then x else m) r ∈ x :: r) ∧ m ≤ maxL (if x > m then x else m) r ∧ ∀ y ∈ x :: r, y ≤ maxL (if x > m then x else m) r
    by_cases c : x > m
    · rw [if_pos c] at h1 h2 h3 ⊢
      refine ⟨.inr ?_, by omega, fun y hy => ?_⟩
      · rcases h1 with e | e
        · rw [e]; exact List.mem_cons_self
        · exact List.mem_cons_of_mem _ e
      · rcases List.mem_cons.mp hy with e | e
        · rw [e]; exact h2
        · exact h3 y e
    · rw [if_neg c] at h1 h2 h3 ⊢
      refine ⟨?_, h2, fun y hy => ?_⟩
      · rcases h1 with e | e
        · exact .inl e
        · exact .inr (List.mem_cons_of_mem _ e)
      · rcases List.mem_cons.mp hy with e | e
        · rw [e]; omega
        · exact h3 y e
def min1F : VF := fun xs h => match xs with
  | [x] => (match listOf x with
    | some ys => (match allIt ys with
      | some (n :: ns) => .ok (.int (minL n ns)) h
      | _ => .bad)
    | none => .bad)
  | _ => .bad
def max1F : VF := fun xs h => match xs with
  | [x] => (match listOf x with
    | some ys => (match allIt ys with
      | some (n :: ns) => .ok (.int (maxL n ns)) h
      | _ => .bad)
    | none => .bad)
  | _ => .bad
section
variable {K : PySem.W.Frag} {g : Gx}
theorem min1S : CallS K g (rMin K) min1F := by
  intro w h H σ W Q xs vs hk r p
  unfold min1F at p
  split at p
  · split at p
    · rename_i ys ey
      split at p
      · rename_i n ns en
        obtain ⟨y, rfl, r1⟩ := r.one
        obtain ⟨a, zs, rfl, rl, st⟩ := listOf_ok ey r1
        have exs := allIt_ok en
        subst exs
        have eys := RVs.ints rl
        subst eys
        obtain ⟨h1, h2, h3⟩ := minL_ok ns n
        refine ⟨a, n :: ns, rfl, st _ _ (Sees.refl _ _), by simp, fun m hm hl => ?_⟩
        have em : m = minL n ns := by
          have a1 : m ≤ minL n ns := hl _ (h1.elim (fun e => by rw [e]; exact List.mem_cons_self) fun e => List.mem_cons_of_mem _ e)
          have a2 : minL n ns ≤ m := by
            rcases List.mem_cons.mp hm with e | e
            · rw [e]; exact h2
            · exact h3 m e
          omega
        rw [em]
        exact post_int p hk
      · exact p.elim
    · exact p.elim
  · exact p.elim
theorem max1S : CallS K g (rMax K) max1F := by
  intro w h H σ W Q xs vs hk r p
  unfold max1F at p
  split at p
  · split at p
    · rename_i ys ey
      split at p
      · rename_i n ns en
        obtain ⟨y, rfl, r1⟩ := r.one
        obtain ⟨a, zs, rfl, rl, st⟩ := listOf_ok ey r1
        have exs := allIt_ok en
        subst exs
        have eys := RVs.ints rl
        subst eys
        obtain ⟨h1, h2, h3⟩ := maxL_ok ns n
        refine ⟨a, n :: ns, rfl, st _ _ (Sees.refl _ _), by simp, fun m hm hl => ?_⟩
        have em : m = maxL n ns := by
          have a1 : maxL n ns ≤ m := hl _ (h1.elim (fun e => by rw [e]; exact List.mem_cons_self) fun e => List.mem_cons_of_mem _ e)
          have a2 : m ≤ maxL n ns := by
            rcases List.mem_cons.mp hm with e | e
            · rw [e]; exact h2
            · exact h3 m e
          omega
        rw [em]
        exact post_int p hk
      · exact p.elim
    · exact p.elim
  · exact p.elim
end
end Mv
set_option Elab.async false
set_option linter.all false
set_option maxRecDepth 100000
/-! Mv, part BJ: append to a list of the small heap, whatever names it. -/
namespace Mv
open PySem PySem.Spec PyProof.Rows L2
def appR (mo : ME) (ma : MA) : ME := fun sv h => (mo sv h).bind fun x h1 => match x with
  | .ref n => (match h1[n]? with
    | some (.lst _) => (ma sv h1).bind fun vs h2 => match vs with
      | [v] => (match h2[n]? with
        | some (.lst xs) => if fits (xs.length + 1) then .ok .non (h2.set n (.lst (xs ++ [v]))) else .bad
        | _ => .bad)
      | _ => .bad
    | _ => .bad)
  | _ => .bad
section
variable {X : Cx} {g : Gx} {W : WX} {o e : Expr} {mo : ME} {ma : MA} {apos cpos : Pos}
theorem re_appR (ho : RE X g W o mo) (ha : RA X g W [e] ma) (hbase : attributeBase o "append" X.env (eval o X.env) = eval o X.env := by rfl)
    (hfew : ((backTo cpos (starEach [e] X.env)).all (fun x => !x.1) && (backToKw cpos (keywordEach [] X.env)).all (fun x => x.1.isSome) && decide (([e] : List Expr).length + ([] : List Keyword).length + (if ([] : List Keyword).isEmpty then 0 else 1) < 30)) = true := by rfl)
    (hline : (apos.endLine == cpos.line) = true := by rfl) (hst : starEach [e] X.env = (false, eval e X.env) :: starEach [] X.env := by rfl) (hplain : (backTo cpos (starEach [] X.env)).any (·.1) = false := by rfl) :
    RE X g W (.Call (.Attribute o "append" apos) [e] [] cpos) (appR mo ma) :=
  pe_imp (pe_bm PySem.F.plainAttrs_list PySem.F.slot_list_append PySem.F.type_list_append (fun pins s σ H x xs v us Q => mt_append pins s σ H x xs v us Q) ho ha hbase hfew hline hst hplain) fun σ H Q ⟨w, sv, h, rs, hk, pp⟩ => by
    refine seqG' rs hk pp fun w1 H1 h1 v y e1 rs1 k1 r1 p1 => ?_
    split at p1
    · rename_i n
      split at p1
      · rename_i zs ez
        obtain ⟨a, ys, rfl, hn, hl, _⟩ := ref_get k1 r1 ez
        refine ⟨.inl ⟨rfl, ys, SqL.of hl⟩, ?_⟩
        refine seqG' rs1 k1 p1 fun w2 H2 h2 vs us e2 rs2 k2 r2 p2 => ?_
        split at p2
        · rename_i v
          split at p2
          · rename_i xs ex
            split at p2
            · rename_i hf
              obtain ⟨a2, ys2, ea, hn2, hl2, rx⟩ := ref_get k2 (RV.mono e2.sees _ _ r1) ex
              cases ea
              simp only [relVs, RVs] at r2
              obtain ⟨u, _, rfl, ru, rfl⟩ := r2
              refine ⟨a, ys2, u, rfl, rfl, hl2, ?_, ?_⟩
              · have q := fits_le hf
                rw [← rx.length]
                omega
              · refine p2 w2 _ .non (refset_extE k2 hn2) (k2.refset hn2 (rx.app ?_)) (by simp only [relV, RV])
                simp only [RVs]
                exact ⟨_, _, rfl, ru, rfl⟩
            · exact p2.elim
          · exact p2.elim
        · exact p2.elim
      · exact p1.elim
    · exact p1.elim
end

/-! ### d.setdefault(k, x), tuple keys -/
section
variable {X : Cx} {o e f : Expr} {td ty tx : TE} {apos cpos : Pos}
theorem pe_setdT (hu : X.A.units + 1 < cLine) (ho : PE X o td) (he : PE X e ty) (hf : PE X f tx) (m : M2 X o "setdefault" apos e f cpos) : PE X (.Call (.Attribute o "setdefault" apos) [e, f] [] cpos) (fun σ H Q => td σ H fun x H1 => ∃ a, x = .ref a ∧ IsD H1 a ∧ ty σ H1 fun y H2 => tx σ H2 fun z H3 =>
    ∃ b kvs k, y = .ref b ∧ H3 b = some (.tup (k.map kV)) ∧ H3 a = some (.dT kvs) ∧ kvs.length < sizeLine ∧ (∀ v, valV kvs k = some v → Q v H3) ∧ (valV kvs k = none → Q z (upd H3 a (.dT (putK kvs k z))))) := by
  refine ⟨fun pins s σ H Q I h => ?_⟩
  refine wpAny_Call_method m.base m.few m.line PySem.F.plainAttrs_dict PySem.F.slot_dict_setdefault PySem.F.type_dict_setdefault (thn (ho.run pins s σ H _ I h) fun dv s1 ⟨dx, H1, I1, rd, a, ed, isd, q1⟩ => ?_)
  cases ed
  cases (show dv = Value.ref a from rd)
  obtain ⟨ty1, nd1, _⟩ := isD_at I1 isd
  refine ⟨ty1, nd1, ?_⟩
  rw [m.trees]
  refine Calls.callWith_builtin rfl (Calls.evalArgs_plain (Calls.spliced_cons (thn (he.run pins s1 σ H1 _ I1 q1) fun kv s2 ⟨kx, H2, I2, rk, q2⟩ => Calls.spliced_cons (thn (hf.run pins s2 σ H2 _ I2 q2) fun zv s3 ⟨z, H3, I3, rz, b, kvs, k, ek, eb, ea, hl, q3, q4⟩ => Calls.spliced_nil ?_))))
  subst ek
  cases (show kv = Value.ref b from rk)
  obtain ⟨hz, hd, xs, rel, dd⟩ := dt_of I3.hok ea
  have hx : xs.length ≤ sizeLine := by rw [← Paired.length rel]; exact hz
  refine call_setdefault_heap (hsz := hx) (tupleKind_room_in1 hu) (key_of I3.hok eb) hd dd (fun p hp => ?_) fun hn h' dg sb => ?_
  · have rv := rel.val k
    rw [hp] at rv
    cases e0 : valV kvs k with
    | none => rw [e0] at rv; exact rv.elim
    | some v =>
      rw [e0] at rv
      exact ⟨v, H3, I3.tok _, rv, q3 v e0⟩
  · have rv := rel.val k
    rw [hn] at rv
    cases e0 : valV kvs k with
    | some v => rw [e0] at rv; exact rv.elim
    | none =>
      have lp : (putK kvs k z).length ≤ sizeLine := by have q := length_putK kvs k z; omega
      obtain ⟨ob, es, ep, g1, g2, g3, g4, _, g6⟩ := dg
      refine ⟨z, upd H3 a (.dT (putK kvs k z)), ?_, rz, q4 e0⟩
      refine d_write I3 (by rw [ea]; exact True.intro) sb ⟨ob, g1⟩ ⟨lp, hd, _, (rel.put k eb rz).keeps fun c ys ec => ?_, ob, es, ep, g1, g2, g3, g4, g6⟩
      rw [upd_ne (ne_of ec ea (fun q => nomatch q))]
      exact ec
variable {g : Gx} {W : WX} {mo mk mx : ME}
def setdM (mo mk mx : ME) : ME := fun sv h => (mo sv h).bind fun x h1 => match dictT h1 x with
  | some _ => (mk sv h1).bind fun y h2 => (mx sv h2).bind fun z h3 => match x with
    | .ref n => (match h3[n]? with
      | some (.dtt ks vs) => (match keyT y with
        | some _ => if fits (vs.length + 1) then (match findT ks vs y with
          | some v => .ok v h3
          | none => .ok z (h3.set n (.dtt (putT ks vs y z).1 (putT ks vs y z).2))) else .bad
        | none => .bad)
      | _ => .bad)
    | _ => .bad
  | none => .bad
theorem re_setd {k : Nat} (hr : Room k X.A) (ho : RE X g W o mo) (he : RE X g W e mk) (hf : RE X g W f mx) (m : M2 X o "setdefault" apos e f cpos) : RE X g W (.Call (.Attribute o "setdefault" apos) [e, f] [] cpos) (setdM mo mk mx) :=
  pe_imp (pe_setdT (Room.u1 hr) ho he hf m) fun σ H Q ⟨w, sv, h, rs, hk, pp⟩ => by
    refine seqG' rs hk pp fun w1 H1 h1 v y e1 rs1 k1 r1 p1 => ?_
    split at p1
    · rename_i dd ed
      obtain ⟨a, kvs0, rfl, q1, _, _⟩ := dictT_ok (ks := dd.1) (vs := dd.2) k1 ed r1
      refine ⟨a, rfl, .inr ⟨kvs0, q1⟩, ?_⟩
      refine seqG' rs1 k1 p1 fun w2 H2 h2 v2 y2 e2 rs2 k2 r2 p2 => ?_
      refine seqG' rs2 k2 p2 fun w3 H3 h3 v3 y3 e3 rs3 k3 r3 p3 => ?_
      split at p3
      · rename_i n
        split at p3
        · rename_i ks vs eh
          split at p3
          · rename_i kk ek
            split at p3
            · rename_i hf
              obtain ⟨a2, ea, hn, kvs, ha, hks, rx⟩ := ref_obj k3 (RV.mono (e2.sees.trans e3.sees) _ _ r1) eh (fun z => nomatch z)
              cases ea
              obtain ⟨b, rfl, hb, _⟩ := RV.keyT (RV.mono e3.sees _ _ r2) ek
              have hz := fits_le hf
              have hl := rx.length
              rw [List.length_map] at hl
              have ey := of_keyT ek
              subst ey
              have rf := findT_ok kk rx
              rw [← hks] at rf
              refine ⟨b, kvs, kk, rfl, hb, ha, by omega, fun v hv => ?_, fun hv => ?_⟩
              · rw [hv] at rf
                cases ef : findT ks vs (.tup (kk.map vvK)) with
                | none => rw [ef] at rf; exact rf.elim
                | some u =>
                  rw [ef] at rf p3
                  exact Post.here p3 k3 rf
              · rw [hv] at rf
                cases ef : findT ks vs (.tup (kk.map vvK)) with
                | some u => rw [ef] at rf; exact rf.elim
                | none =>
                  rw [ef] at p3
                  have sg : Sees w3 H3 w3 (upd H3 a (.dT (putK kvs kk y3))) := refset_sees hn
                  obtain ⟨m1, m2⟩ := putT_ok hks rx ek r3
                  exact p3 w3 _ y3 (refset_extE k3 hn) (k3.refsetO hn ⟨_, upd_same, m1, RVs.mono sg _ _ m2⟩) (RV.mono sg _ _ r3)
            · exact p3.elim
          · exact p3.elim
        · exact p3.elim
      · exact p3.elim
    · exact p1.elim
end
end Mv
set_option Elab.async false
set_option linter.all false
set_option maxRecDepth 100000
/-! Mv, part BK: lambdas (with parameters, without names from around them) as values: made, held in a name, called. -/
namespace Mv
open PySem PySem.Spec PyProof.Rows L2

theorem clo_nil {cells : List (Str × Addr)} : ∀ {names : List (Str × NameKind)}, (∀ y ∈ names, y.2 ≠ .free) → cloFrom cells names [] = []
  | [], _ => rfl
  | (n, k) :: r, h => by
    unfold cloFrom
    rw [if_neg (by simpa using h _ (List.mem_cons_self ..))]
    exact clo_nil fun y hy => h y (List.mem_cons_of_mem _ hy)
section
variable {X : Cx} {pins : List (Addr × Obj)} {σ : L2.St} {H : Hp} {s : Shared}
/-- a lambda is made and tracked -/
theorem lam_mkV {c P : Addr} {q : Str} {params : Arguments} {body : Expr} {scope : Scope} {pos : Pos} {E : Value → Shared → Prop} {Q : Value → Shared → Prop} (J : Inv X pins σ H s) (TB : LamX.TabB X.base X.mg c P) (ec : X.env.code = .ref c)
    (eq : q = X.env.qual ++ "<lambda>") (hT : LamX.TabS H P q) (ed : defaultsOf params X.env = ([], [])) (fr : ∀ y ∈ scope.names, y.2 ≠ .free)
    (go : ∀ (f c2 : Addr) (pm ct : Value) (G : Hp) (u : Shared), Inv X pins σ (upd G f (.frz (PySem.W.kla_obj "<lambda>" q params body scope [] pm c2 ct) (.ext fun _ => True))) u → LamN P H G → LamX.TabS G P q → G f = none → G c2 = some (LamX.CodeO c2 q) → Q (.ref f) u) :
    wpAny (model X.prog X.w) X.A (eval (.Lambda params body scope pos) X.env) Q E s := by
  subst eq
  have ecl := clo_nil (cells := X.env.cells) fr
  obtain ⟨tb, eP, tri, all⟩ := hT
  have bP : s.heap.BuiltinsAt X.mg P := TB.bm.keeps J.bk
  have getP : s.heap.get? P = some { cls := .none, data := .fields tb } := J.hok P _ eP
  have hfree : ∀ y ∈ scope.names, y.2 = .free → ∃ c, X.env.cells.lookup y.1 = some c := fun y hy e => absurd e (fr y hy)
  have new : ∀ {G : Hp} {h' : Heap} {ob : Obj}, ob.isFreed = false → ObjOk X.prog X.w (upd G h'.objs.size (.frz ob (.ext fun _ => True))) (h'.push ob) h'.objs.size (.frz ob (.ext fun _ => True)) := fun {G h' ob} nf =>
    ⟨Heap.get?_push_size _ nf, True.intro, ⟨ob, Heap.get?_push_size _ nf⟩, fun _ _ _ _ => True.intro⟩
  refine PySem.W.kla_eval ed ?_
  cases am : codeAmong pos tb.toList with
  | some v =>
    obtain ⟨c2, rfl, e2⟩ := all pos v am
    refine PySem.W.kla_makeFunctionHit (mg := X.mg) (c := c) (P := P) (ps := tb) (closure_ok hfree) J.ok.glob (J.mod.glob.keeps J.bk) ec (TB.code.keeps J.bk) getP tri am bP fun ct g2 k2 hx hz => ?_
    rw [ecl]
    have hn : H g2.objs.size = none := J.hok.fresh hz
    refine go g2.objs.size c2 _ ct H _ (J.laidN (fun b o e => Heap.get?_push_of_some _ (hx b o e)) (Heap.get?_none_of_le hz) hn (new rfl)) (LamN.refl P H) ⟨tb, eP, tri, all⟩ hn e2
  | none =>
    refine PySem.W.kla_makeFunction (mg := X.mg) (c := c) (P := P) (ps := tb) (closure_ok hfree) J.ok.glob (J.mod.glob.keeps J.bk) ec (TB.code.keeps J.bk) getP tri am TB.gP bP fun c2 ct g2 k2 hx ge lt rec put => ?_
    rw [ecl]
    obtain ⟨_, oc, vs, tk, e2, hoc, hd, hv⟩ := rec
    cases e2
    have big : s.heap.objs.size ≤ g2.objs.size := Nat.le_trans ge (Nat.le_of_lt lt)
    have nc : H c2 = none := J.hok.fresh ge
    have nPc : P ≠ c2 := ne_of_none eP nc
    have J2 := LamX.inv_table (t' := k2) (more := #[rawInt pos.line, rawInt pos.col, .ref c2]) (h' := g2) (q := X.env.qual ++ "<lambda>") J eP
      (fun b o hb e => hx b o hb e) put ge ⟨oc, vs, tk, hoc, hd, hv⟩
    have hn := J2.hok.fresh (Nat.le_refl g2.objs.size)
    refine go g2.objs.size c2 _ ct _ _ (J2.laidN (t' := k2) (fun b o e => Heap.get?_push_of_some _ e) (Heap.get?_none_of_le (Nat.le_refl _)) hn (new rfl)) (fun a ha => ?_) ⟨_, by rw [upd_ne nPc, upd_same], ?_, fun p2 v hv2 => ?_⟩ hn upd_same
    · by_cases ea : a = c2
      · subst ea
        exact .inr ⟨nc, _, upd_same⟩
      · exact .inl (by rw [upd_ne ea, upd_ne ha])
    · rw [show (tb ++ #[rawInt pos.line, rawInt pos.col, .ref c2]).toList = tb.toList ++ [rawInt pos.line, rawInt pos.col, .ref c2] by simp]
      exact PySem.TriplesOk_snoc _ _ _ _ tri
    · rw [show (tb ++ #[rawInt pos.line, rawInt pos.col, .ref c2]).toList = tb.toList ++ [rawInt pos.line, rawInt pos.col, .ref c2] by simp] at hv2
      rcases LamX.among_app _ tri hv2 with z | z
      · obtain ⟨c3, e1, e2⟩ := all p2 v z
        have n3 : c3 ≠ c2 := ne_of_none e2 nc
        have n4 : c3 ≠ P := fun e => by
          rw [e, eP] at e2
          exact absurd (Option.some.inj e2).symm (LamX.codeO_ne _)
        exact ⟨c3, e1, by rw [upd_ne n3, upd_ne n4]; exact e2⟩
      · exact ⟨c2, z, upd_same⟩
end
/-! ### made -/
def lamVM (ti nt : Nat) (q : Str) (n i j : Nat) : ME := fun _ h => match h[ti]? with
  | some (.tbl n' q') => if n' = nt ∧ q' = q then .ok (.ins (n + 1) [.int i, .int j]) h else .bad
  | _ => .bad
section
variable {X : Cx} {g : Gx} {W : WX}
theorem re_lamV {ti nt n i j : Nat} {q : Str} {c : Addr} {params : Arguments} {body : Expr} {scope : Scope} {pos : Pos} (TB : LamX.TabB X.base X.mg c (g.adr nt)) (ec : X.env.code = .ref c) (eq : q = X.env.qual ++ "<lambda>") (ed : defaultsOf params X.env = ([], []))
    (hl : lamK X.K (g.adr n) i j = some (params, body, scope, q)) (fr : ∀ y ∈ scope.names, y.2 ≠ .free) : RE X g W (.Lambda params body scope pos) (lamVM ti nt q n i j) := by
  refine ⟨fun pins s σ H Q I tt => ?_⟩
  obtain ⟨w, sv, h, rs, hk, pp⟩ := tt
  unfold lamVM at pp
  split at pp
  · rename_i n' q' eh
    split at pp
    · rename_i c
      obtain ⟨rfl, rfl⟩ := c
      obtain ⟨hi, tw⟩ := tab_at hk eh
      have t1 : LamX.TabS H (g.adr n') q' := by
        obtain ⟨ps, h1, h2, h3⟩ := tw
        exact ⟨ps, h1, h2, fun pos cv z => by
          obtain ⟨c, e1, e2, _⟩ := h3 pos cv z
          exact ⟨c, e1, e2⟩⟩
      refine lam_mkV I TB ec eq t1 ed fr fun f c2 pm ct G u J lN T2 hf hco => ?_
      have ex := lam_ext hk lN (List.mem_of_getElem? hi)
      have k2 := lam_hk hk eh lN T2
      have nm : ¬ w.mut c2 := k2.spc c2 _ hco ⟨q', rfl⟩
      refine ⟨.ref f, _, J, rfl, pp w _ (.ref f) (ex.trans (Ext.grow k2 hf)) (Hk.grow k2 hf) ?_⟩
      simp only [relV, RV]
      refine ⟨f, [.int i, .int j], rfl, ⟨_, upd_same, ⟨i, j, (params, body, scope, q'), pm, c2, ct, rfl, hl, rfl, ?_, nm⟩, k2.fresh hf⟩, by simp [RVs, RV]⟩
      rw [upd_ne (ne_of_none hco hf)]
      exact hco
    · exact pp.elim
  · exact pp.elim
end
/-- the text of a def's lambda, by the head's facts -/
theorem lamK_of {K : PySem.W.Frag} {x qual : Str} {params : Arguments} {body : List Stmt} {scope : Scope} {dvs : List V} {kws : List (Str × V)} {f : Addr} {fd : FuncData} {i j : Nat} {t : LamT} (F : FunD K x qual params body scope dvs kws f fd) (e : lamAt body qual i j = some t) : lamK K f i j = some t := by
  obtain ⟨oc, od, dV, kV, doc, pm, an, cdv, ct, osl, efd, lk, _⟩ := F.ex
  subst efd
  unfold lamK
  rw [lk]
  exact e

/-! ### called -/
def fnE (np : Nat) (m : ME) : MF := fun vs h => if vs.length = np then m (vs.map some) h else .bad
/-- what is known of such a lambda -/
def LamOk (P : Program) (w : World) (K : PySem.W.Frag) (mg : Str → Option Value) (g : Gx) (k n i j : Nat) (mf : MF) : Prop :=
  ∃ (params : Arguments) (body : Expr) (scope : Scope) (q : Str) (ps : List Str) (m : ME), lamK K (g.adr n) i j = some (params, body, scope, q) ∧ FnScope ps ps scope ∧ mf = fnE ps.length m ∧
    (∀ (pm cv ct : Value) (us : List Value), us.length = ps.length → bindArgs (PySem.W.kla_fn "<lambda>" q params body scope [] pm cv ct) ⟨us, []⟩ = pure (ps.zip us)) ∧
    ∀ (base : Heap) (f : Addr) (cdv : Value) (A : Around) (outer : List Env) (s : Shared) (H : Hp) (E : XK), Room k (A.deeper (envOfC q scope s.heap.objs.size f cdv)) → RE (cxOf (L2.CX P w) P w K mg base ps q scope f cdv A outer s H E) g (WK E) body m
theorem LamOk.mono {P : Program} {w : World} {K : PySem.W.Frag} {mg : Str → Option Value} {g : Gx} {k k' n i j : Nat} {mf : MF} (h : LamOk P w K mg g k n i j mf) (l : k ≤ k') : LamOk P w K mg g k' n i j mf := by
  obtain ⟨a, b, c, q, ps, m, h1, h2, h3, h4, h5⟩ := h
  exact ⟨a, b, c, q, ps, m, h1, h2, h3, h4, fun base f cdv A outer s H E hr => h5 base f cdv A outer s H E (hr.mono l)⟩
def lamFind : List (Nat × Nat × Nat × MF) → Nat → Int → Int → Option MF
  | [], _, _, _ => none
  | t :: r, n, i, j => if Nat.beq t.1 n && decide ((t.2.1 : Int) = i) && decide ((t.2.2.1 : Int) = j) then some t.2.2.2 else lamFind r n i j
def TabL (P : Program) (w : World) (K : PySem.W.Frag) (mg : Str → Option Value) (g : Gx) (k : Nat) (tab : List (Nat × Nat × Nat × MF)) : Prop := ∀ (n i j : Nat) mf, lamFind tab n i j = some mf → LamOk P w K mg g k n i j mf
theorem tabL_nil {P : Program} {w : World} {K : PySem.W.Frag} {mg : Str → Option Value} {g : Gx} {k : Nat} : TabL P w K mg g k [] := fun n i j mf e => by cases e
theorem tabL_cons {P : Program} {w : World} {K : PySem.W.Frag} {mg : Str → Option Value} {g : Gx} {j k n a b : Nat} {mf : MF} {tab : List (Nat × Nat × Nat × MF)} (F : LamOk P w K mg g j n a b mf) (r : TabL P w K mg g k tab) (hj : j ≤ k := by omega) : TabL P w K mg g k ((n, a, b, mf) :: tab) := fun n2 i2 j2 mf2 e => by
  unfold lamFind at e
  split at e
  · rename_i c
    simp only [Bool.and_eq_true, decide_eq_true_eq] at c
    obtain ⟨⟨c1, c2⟩, c3⟩ := c
    have c1 := Nat.eq_of_beq_eq_true c1
    have c2 := Int.ofNat.inj c2
    have c3 := Int.ofNat.inj c3
    subst c1 c2 c3
    cases e
    exact F.mono hj
  · exact r n2 i2 j2 mf2 e
/-- a name that holds a def or a lambda -/
def callVL (tab : List (Nat × MF)) (tl : List (Nat × Nat × Nat × MF)) (i : Nat) (a : MA) : ME := fun sv h => match sv[i]? with
  | some (some (.adr n)) => (match tab.lookup n with
    | some mf => (a sv h).bind fun vs h1 => mf vs h1
    | none => .bad)
  | some (some (.ins (n + 1) [.int p, .int r])) => (match lamFind tl n p r with
    | some mf => (a sv h).bind fun vs h1 => mf vs h1
    | none => .bad)
  | _ => .bad
section
variable {X : Cx} {g : Gx} {W : WX} {e : Expr} {es : List Expr} {ma : MA} {p pos : Pos} {x : Str} {j k : Nat}
/-- the call itself -/
theorem run_lamV {n a b : Nat} {mf : MF} {f : Addr} {ob : Obj} {vs : List V} {us : List Value} {pins : List (Addr × Obj)} {σ : L2.St} {H : Hp} {s : Shared} {Q : VK} {w1 : Wd} (LO : LamOk X.prog X.w X.K X.mg g j n a b mf) (hr : Room (k + 1) X.A) (tk : Takes X W) (hj : j ≤ k) (I : Inv X pins σ H s)
    (hf : H f = some (.frz ob (.ext fun _ => True))) (lp : LamP X.K w1 H (g.adr n) ob [.int a, .int b]) (r : Vals vs us) (hs : spM X.K g mf vs H Q (WE W σ)) : wpAny (model X.prog X.w) X.A (call (.ref f) us) (EP X pins σ Q) X.xe s := by
  obtain ⟨params, body, scope, q, ps, m, hl, S, em, hb, hbody⟩ := LO
  obtain ⟨i2, j2, t, pm, c2, ct, ev, hl2, eo, hc, _⟩ := lp
  have e1 : (a : Int) = i2 ∧ (b : Int) = j2 := by simpa using ev
  have e2 : a = i2 := by omega
  have e3 : b = j2 := by omega
  subst e2 e3
  rw [hl] at hl2
  cases hl2
  subst eo
  subst em
  obtain ⟨w2, h2, xs, k2, rx, pp⟩ := hs
  have hlen : xs.length = ps.length := by
    unfold fnE at pp
    split at pp
    · assumption
    · exact pp.elim
  have hl : vs.length = ps.length := by rw [← rx.length]; exact hlen
  unfold fnE at pp
  rw [if_pos hlen] at pp
  obtain ⟨hg, _⟩ := I.hok f _ hf
  obtain ⟨⟨oc, cvs, tq, hoc, hdc, hvc⟩, _, _⟩ := I.hok c2 _ hc
  have e0 := I.env0
  have lim : s.heap.NoLimit := e0.mod.nolimit.keeps fun b o e => (e0.bs b o e).1
  have hkind : ∀ y ∈ ps.zip us, scope.names.lookup y.1 = some .local ∨ (scope.names.lookup y.1 = some .cell ∧ ((cellsFrom (s.heap.objs.size + 1) scope.names []).lookup y.1).isSome = true) := fun ⟨n, v⟩ hy => by
    rcases S.par n (List.of_mem_zip hy).1 with q | q
    · exact .inl q
    · exact .inr ⟨q, PySem.W.cellsFrom_some _ _ _ (.inl q)⟩
  have rc : codeAny (model X.prog X.w) X.A (.call (.ref f) ⟨us, []⟩) (CR (L2.CX X.prog X.w) X.stack X.prog X.w H s Q (WE W σ)) s := by
    refine PySem.W.kla_callFunE (hr.mono (Nat.le_refl _)).depth hg rfl S.co S.gen rfl ⟨c2, oc, cvs, tq, rfl, hoc, hdc, hvc⟩ ?_
    rw [hb _ _ _ us (by rw [← r.length]; exact hl)]
    refine wpAny_pure (wpAny_newFunctionEnv_cells S.kind hkind fun env he s1 x => ?_)
    subst he
    refine ⟨lim.keeps x.toInCall.keep, ?_⟩
    have J : Inv (cxOf (L2.CX X.prog X.w) X.prog X.w X.K X.mg X.base ps q scope f (.ref c2) X.A X.stack s H (WE W σ)) [] (L2.start ps vs) H s1 := inv_start S hr.hd e0 hl r x
    have pe := hbody X.base f (.ref c2) X.A X.stack s H (WE W σ) ((hr.deeper _).mono hj)
    refine PySem.W.kla_codeExpr (wpAny_mono (pe.run [] s1 (L2.start ps vs) H Q J ⟨w2, xs.map some, h2, ⟨?_, fun i v ei => ?_⟩, k2, ?_⟩) (fun v s' hq => ?_) fun e s' hq => hq)
    · have := rx.length
      unfold L2.start
      simp
      omega
    · rw [List.getElem?_map] at ei
      cases ex : xs[i]? with
      | none => rw [ex] at ei; cases ei
      | some z =>
        rw [ex] at ei
        cases ei
        obtain ⟨y, h3, h4⟩ := rx.get i _ ex
        refine ⟨y, ?_, h4⟩
        unfold L2.start
        rw [List.getElem?_append_left (by rw [List.length_map]; exact (List.getElem?_eq_some_iff.mp h3).1), List.getElem?_map, h3]
        rfl
    · cases em : m (xs.map some) h2 with
      | ok v h3 => rw [em] at pp; exact pp
      | exc x h3 => rw [em] at pp; exact pp
      | bad => rw [em] at pp; exact pp
    · obtain ⟨w', H', J', rv, q⟩ := hq
      exact ⟨w', H', J'.os, J'.bare, J'.base, J'.hok, rv, q⟩
  refine wpAny_call (codeAny_mono rc fun r2 s2 hq => ?_)
  cases r2 with
  | error e => exact passAt tk σ pins H s e s2 I hq
  | ok fl =>
    cases fl with
    | ret u => exact I.after hq
    | _ => exact False.elim hq
theorem re_callVL {tab : List (Nat × MF)} {tl : List (Nat × Nat × Nat × MF)} (T : TabV X.prog X.w X.K X.mg g j tab) (TL : TabL X.prog X.w X.K X.mg g j tl) (hr : Room k X.A) (tk : Takes X W) (i : Nat) (ha : RA X g W (e :: es) ma) (hN : X.N[i]? = some x := by rfl) (hv : Vis X.env.scope x := by first | exact Or.inl rfl | exact Or.inr (Or.inl rfl) | exact Or.inr (Or.inr rfl)) (hj : j + 1 ≤ k := by omega)
    (hd : (x == ("__debug__" : Str)) = false := by decide) (hcd : (x == ("__classdict__" : Str)) = false := by decide) (he : starEach (e :: es) X.env = (false, eval e X.env) :: starEach es X.env := by rfl) (hpl : (backTo pos (starEach es X.env)).any (·.1) = false := by rfl) :
    RE X g W (.Call (.Name x p) (e :: es) [] pos) (callVL tab tl i ma) := by
  refine ⟨fun pins s σ H Q I tt => ?_⟩
  obtain ⟨w, sv, h, rs, hk, pp⟩ := tt
  unfold callVL at pp
  split at pp
  · rename_i n en
    refine (re_callV T hr tk i ha hN hv (by omega) hd hcd he hpl).run pins s σ H Q I ⟨w, sv, h, rs, hk, ?_⟩
    unfold callVM
    rw [en]
    exact pp
  · rename_i n c1 c2 en
    split at pp
    · rename_i mf emf
      obtain ⟨y, ey, ry⟩ := rs.get i _ en
      simp only [RV] at ry
      obtain ⟨f, vs, rfl, ⟨ob, hf, lp, nm⟩, rvs⟩ := ry
      have lp : LamP X.K w H (g.adr n) ob vs := lp
      obtain ⟨i2, j2, t, pm, cc, ct, ev, hl2, eo, hc, nmc⟩ := id lp
      have ec : c1 = (i2 : Int) ∧ c2 = (j2 : Int) := by
        subst ev
        simp only [RVs, RV] at rvs
        obtain ⟨_, _, q1, rfl, _, _, q2, rfl, rfl⟩ := rvs
        simp at q1
        obtain ⟨q3, rfl⟩ := q1
        simp at q2
        exact ⟨q3.symm, q2.symm⟩
      obtain ⟨rfl, rfl⟩ := ec
      subst ev
      have LO := TL n i2 j2 mf emf
      obtain ⟨k, rfl⟩ : ∃ k', k = k' + 1 := ⟨k - 1, by omega⟩
      have hc2 : tG X.K g (relVs X.K g) ma W σ H fun vs2 H1 => spM X.K g mf vs2 H1 Q (WE W σ) ∧ H1 f = some (.frz ob (.ext fun _ => True)) ∧ ∃ w1, LamP X.K w1 H1 (g.adr n) ob [.int i2, .int j2] := by
        refine seqG' rs hk pp fun w1 H1 h1 us y e1 rs1 k1 r1 p1 => ⟨⟨w1, h1, us, k1, r1, ?_⟩, (e1.keep f _ hf nm).1, w1, lp.imp fun c o h m _ => e1.keep c o h m⟩
        cases q : mf us h1 with
        | ok v h2 => rw [q] at p1; exact p1
        | exc x h2 => rw [q] at p1; exact p1
        | bad => rw [q] at p1; exact p1
      refine wpAny_Call_Name_kw (thn ((pe_var (pos := p) hN hv hd hcd).run pins s σ H (fun v H1 => v = .ref f ∧ H1 = H) I ⟨_, ey, rfl, rfl⟩) fun u s1 ⟨v, H1, I1, r1, q1⟩ => ?_)
      obtain ⟨rfl, rfl⟩ := q1
      cases r1
      have fnat : ∀ {G : Hp} {s2 : Shared}, Inv X pins σ G s2 → G f = some (.frz ob (.ext fun _ => True)) → PySem.W.FnAt f s2.heap := fun {G s2} I2 hg => by
        obtain ⟨h3, _⟩ := I2.hok f _ hg
        rw [eo] at h3
        exact ⟨_, _, _, _, h3⟩
      refine PySem.W.callWith_F (fnat I1 hf) (thn (ha.run pos pins s1 σ _ _ I1 hc2) fun us s2 ⟨vs, H2, I2, r, q1, q2, w1, q3⟩ => ⟨fnat I2 q2, ?_⟩) he hpl
      exact run_lamV LO hr tk (by omega) I2 q2 q3 r q1
    · exact pp.elim
  · exact pp.elim
end
end Mv
set_option Elab.async false
set_option linter.all false
set_option maxRecDepth 100000
/-! Mv, part BL: properties: their getters seen in the head, and read. -/
namespace Mv
open PySem PySem.W PySem.Spec PyProof.Rows L2 SlX

/-! ### getters in the head -/
/-- the getter of a class's property -/
def pgA (K : Frag) (p : Str × Str) : Addr := match findIn K (.ref (He.ga K p.1)) p.2 with
  | some (some (.ref q)) => (match recIn K q "property" with
    | some (.ref g :: _) => g
    | _ => 0)
  | _ => 0
def pgW (K : Frag) (p : Str × Str) : He.FnW := match K.lookup (pgA K p) with
  | some ⟨_, _, .func fd, _⟩ => some (fd.name, fd.qualname, fd.params, fd.body, fd.scope, fd.globals, fd.closure, fd.builtins)
  | _ => none
structure PrD where
  at_ : Str × Str
  d : He.DefD
def PrD.ok (K : Frag) (p : PrD) : Bool := keepIn K (.ref (pgA K p.at_)) && (match K.lookup (pgA K p.at_) with
  | some ⟨_, _, .func fd, _⟩ => codeIn K fd.code p.d.qual && (He.dflB K fd.defaults (p.d.dvs K) && He.kwdB K fd.kwdefaults (p.d.kws K))
  | _ => false)
theorem PrD.funD {K : Frag} {p : PrD} (e : pgW K p.at_ = p.d.val) (c : p.ok K = true) : ∃ fd, FunD K p.d.name p.d.qual p.d.params p.d.body p.d.scope (p.d.dvs K) (p.d.kws K) (pgA K p.at_) fd := by
  obtain ⟨at_, d⟩ := p
  obtain ⟨kp, c2⟩ := He.ba c
  unfold pgW at e
  dsimp only at e c2 kp ⊢
  cases q : K.lookup (pgA K at_) with
  | none =>
    rw [q] at c2
    cases c2
  | some o =>
    obtain ⟨oc, od, dt, osl⟩ := o
    rw [q] at c2 e
    cases dt with
    | func fd =>
      obtain ⟨n1, n2, n3, n4, n5, n6, n7, n8, n9, n10, n11, n12, n13, n14, n15⟩ := fd
      have e2 : (some (n1, n2, n3, n4, n5, n6, n7, n15) : He.FnW) = some (d.name, d.qual, d.params, .stmts d.body, d.scope, mainGlobals, [], builtinsNs) := e
      simp only [Option.some.injEq, Prod.mk.injEq] at e2
      obtain ⟨h1, h2, h3, h4, h5, h6, h7, h8⟩ := e2
      subst h1 h2 h3 h4 h5 h6 h7 h8
      have c3 : (codeIn K n13 d.qual && (He.dflB K n8 (d.dvs K) && He.kwdB K n9 (d.kws K))) = true := c2
      obtain ⟨k1, k2⟩ := He.ba c3
      obtain ⟨k3, k4⟩ := He.ba k2
      exact ⟨_, ⟨oc, od, n8, n9, n10, n11, n12, n13, n14, osl, rfl, q, k1, He.dflB_ok k3, He.kwdB_ok k4⟩, kp⟩
    | _ => cases c2
abbrev AlP : Type := Bool × List He.FnW
def obsPK (pn : List PrD) (K : Frag) : AlP := (pn.all fun d => d.ok K, pn.map fun d => pgW K d.at_)
def valP (pn : List PrD) : AlP := (true, pn.map fun d => d.d.val)
def PrS (pn : List PrD) (K : Frag) : Prop := obsPK pn K = valP pn
theorem PrS.def_ {pn : List PrD} {K : Frag} (c : PrS pn K) (i : Nat) {p : PrD} (h : pn[i]? = some p := by rfl) : ∃ fd, FunD K p.d.name p.d.qual p.d.params p.d.body p.d.scope (p.d.dvs K) (p.d.kws K) (pgA K p.at_) fd := by
  have c2 : (pn.all fun d => d.ok K) = true := congrArg (fun z : AlP => z.1) c
  have e : pn.map (fun d => pgW K d.at_) = pn.map fun d => d.d.val := congrArg (fun z : AlP => z.2) c
  have e2 : (pn.map fun d => pgW K d.at_)[i]? = (pn.map fun d => d.d.val)[i]? := by rw [e]
  rw [List.getElem?_map, List.getElem?_map, h] at e2
  exact PrD.funD (Option.some.inj e2) (List.all_eq_true.mp c2 p (List.mem_of_getElem? h))
def obsP (n : Nat) (fa : List He.Fa) (fn : List He.DefD) (tf : List He.Defn) (ex : Frag → Bool) (pn : List PrD) (g : Addr → Option Obj) : He.AlX × AlP := (obsF n fa fn tf ex g, obsPK pn (He.frT g (asF g n)))
def hookP (n : Nat) (fa : List He.Fa) (fn : List He.DefD) (tf : List He.Defn) (ex : Frag → Bool) (pn : List PrD) : Hook where
  α := He.AlX × AlP
  obs := fun s => obsP n fa fn tf ex pn s.heap.get?
  val := fun w => (He.valX fn [] w, valP pn)
  says := fun w h => ∃ K : Frag, K.In h ∧ He.SaysX fa fn [] tf ex w h K ∧ PrS pn K
  of := fun _ _ e => ⟨_, He.frT_in, saysF_of (congrArg (fun z : He.AlX × AlP => z.1) e), congrArg (fun z : He.AlX × AlP => z.2) e⟩
  keeps := fun _ _ _ ⟨K, i, c, p⟩ k => ⟨K, Frag.In.keeps i k, ⟨c.t, c.more, c.hd, c.out, fun p hp => k _ _ (c.empty p hp)⟩, p⟩
theorem obsP_eq {n : Nat} {fa : List He.Fa} {fn : List He.DefD} {tf : List He.Defn} {ex : Frag → Bool} {pn : List PrD} {g : Addr → Option Obj} {s : Shared} (h : ∀ a, g a = s.heap.get? a) : obsP n fa fn tf ex pn g = (hookP n fa fn tf ex pn).obs s := by
  have e : g = s.heap.get? := funext h
  rw [e]
  rfl
/-- what the head tells, getters too -/
structure HyP (fa : List He.Fa) (fn : List He.DefD) (ex : Frag → Bool) (pn : List PrD) (K : Frag) (mg : Str → Option Value) : Prop extends Hy fa fn ex K mg where
  p : PrS pn K

/-! ### read -/
def propB (K : Frag) (C : Addr) (f : Str) (g : Addr) : Bool := match findIn K (.ref C) f with
  | some (some (.ref p)) => decide (specialIn K (.ref p) "__get__" = some (some (.builtin "property.__get__"))) && decide (takesIn K (.ref p) = some true) && (match recIn K p "property" with
    | some (.ref g' :: _) => decide (g' = g)
    | _ => false)
  | _ => false
theorem propB_ok {K : Frag} {C : Addr} {f : Str} {g : Addr} (h : propB K C f g = true) : ∃ p, PropOf K C f p g := by
  unfold propB at h
  split at h
  · rename_i p e
    simp only [Bool.and_eq_true, decide_eq_true_eq] at h
    obtain ⟨⟨h1, h2⟩, h3⟩ := h
    split at h3
    · rename_i g' rest er
      have := of_decide_eq_true h3
      subst this
      exact ⟨p, e, h1, h2, rest, er⟩
    · cases h3
  · cases h
/-- the classes that have such a property, the getters' mirrors -/
def PropT (P : Program) (w : World) (K : Frag) (mg : Str → Option Value) (g : Gx) (k : Nat) (f : Str) (tab : List (Nat × MF)) : Prop := ∀ c mf, tab.lookup c = some mf → SCls K (g.adr c) ∧ ∃ p gA ps, PropOf K (g.adr c) f p gA ∧ OkF P w K mg g k gA ps mf
section
variable {P : Program} {w : World} {K : Frag} {mg : Str → Option Value} {g : Gx} {k j : Nat} {f : Str}
theorem propT_nil : PropT P w K mg g k f [] := fun c mf e => by cases e
theorem propT_cons {c : Nat} {C gA : Addr} {mf : MF} {ps : List Str} {tab : List (Nat × MF)} (F : OkF P w K mg g j gA ps mf) (cl : clsSB K C = true) (pb : propB K C f gA = true) (r : PropT P w K mg g k f tab) (hC : C = g.adr c := by rfl) (hj : j ≤ k := by omega) : PropT P w K mg g k f ((c, mf) :: tab) := fun n2 mf2 e => by
  subst hC
  rw [List.lookup_cons] at e
  split at e
  · rename_i q
    cases e
    have : n2 = c := by simpa using q
    subst this
    obtain ⟨p, hp⟩ := propB_ok pb
    obtain ⟨fd, F, B, kp, b⟩ := F
    exact ⟨(clsSB_ok cl).c, p, gA, ps, hp, fd, fun base => (F base).mono hj, B, kp, b⟩
  · exact r n2 mf2 e
end
def propM (tab : List (Nat × MF)) (a : ME) : ME := fun sv h => (a sv h).bind fun x h1 => match x with
  | .ref n => (match insAt h1 n with
    | some (c, _, _) => (match tab.lookup c with
      | some mf => (match mf [.ref n] h1 with
        | .ok v h2 => .ok v h2
        | _ => .bad)
      | none => .bad)
    | none => .bad)
  | _ => .bad
section
variable {X : Cx} {g : Gx} {W : WX} {e : Expr} {m : ME} {pos : Pos} {f : Str} {k j : Nat}
theorem re_prop {tab : List (Nat × MF)} (T : PropT X.prog X.w X.K X.mg g j f tab) (hr : Room k X.A) (he : RE X g W e m) (hj : j + 1 ≤ k := by omega) (hb : attributeBase e f X.env (eval e X.env) = eval e X.env := by rfl) : RE X g W (.Attribute e f pos) (propM tab m) := by
  refine ⟨fun pins s σ H Q I ⟨w, sv, h, rs, hk, pp⟩ => ?_⟩
  have hq : tG X.K g (relV X.K g) m W σ H fun x H1 => ∃ a C dx vs gA p ps mf, x = .ref a ∧ Slt H1 a C dx vs ∧ SCls X.K C ∧ PropOf X.K C f p gA ∧ OkF X.prog X.w X.K X.mg g j gA ps mf ∧ spM X.K g mf [.ref a] H1 Q (fun _ _ _ => False) := by
    refine seqG' rs hk pp fun w1 H1 h1 v y e1 rs1 k1 r1 p1 => ?_
    split at p1
    · rename_i n
      split at p1
      · rename_i c mm vs ei
        split at p1
        · rename_i mf el
          obtain ⟨a, dx, ys, rfl, hs, ro, _⟩ := insAt_ok k1 r1 ei
          obtain ⟨cc, p, gA, ps, hp, F⟩ := T c mf el
          refine ⟨a, _, dx, ys, gA, p, ps, mf, rfl, hs, cc, hp, F, w1, h1, [.ref n], k1, by simp only [RVs]; exact ⟨_, _, rfl, r1, rfl⟩, ?_⟩
          split at p1
          · rename_i v h2 em
            rw [em]
            exact p1
          · exact p1.elim
        · exact p1.elim
      · exact p1.elim
    · exact p1.elim
  refine attr_of hb (thn (he.run pins s σ H _ I hq) fun u s1 ⟨x, H1, I1, rx, a, C, dx, vs, gA, p, ps, mf, ex, hs, cc, hp, F, q⟩ => ?_)
  subst ex
  obtain rfl : u = Value.ref a := rx
  obtain ⟨fd, F, B, kp, _⟩ := F
  obtain ⟨k, rfl⟩ : ∃ k', k = k' + 1 := ⟨k - 1, by omega⟩
  refine getprop_sl (CX := L2.CX X.prog X.w) (E := fun _ _ _ => False) (n := k) (sp := fun vs H Q E => spM X.K g mf (vs ++ []) H Q E) I1 hs cc hp.at_ hp.get hp.tak hp.rec_ (((F X.base).mono (by omega)).raw B .nil) hr (fun H s e s' z => ?_) q
  obtain ⟨_, _, _, _, _, _, _, _, _, _, _, _, z⟩ := z
  exact z.elim
end
end Mv
set_option Elab.async false
set_option linter.all false
set_option maxRecDepth 100000
/-! Mv, part BM: x, y = e, [..] and x, y = [..], e and x, y, z = e, f, [..] of plain locals, where lists of one's own come to be. -/
namespace Mv
open PySem PySem.Spec PyProof.Rows L2
section
variable {K : PySem.W.Frag} {g : Gx} {w w1 w2 : Wd} {H H1 H2 : Hp} {h h1 h2 : VH} {sl : Sl} {σ : L2.St} {i : Nat} {a : Addr} {o : HO}
/-- the slot is told nothing of -/
theorem RF.noS (f : RF K g w H sl σ) : RF K g (w.drop i) H (sl.set i .no) σ where
  len := by rw [List.length_set]; exact f.len
  lenO := by unfold Wd.drop; rw [List.length_set, List.length_set]; exact f.lenO
  val := fun j u q => by
    rw [List.getElem?_set] at q
    by_cases e : i = j
    · subst e
      rw [if_pos rfl] at q
      split at q <;> cases q
    · rw [if_neg e] at q
      obtain ⟨h1, z, h2, h3⟩ := f.val j u q
      refine ⟨?_, z, h2, RV.mono drop_sees _ _ h3⟩
      unfold Wd.drop
      rw [List.getElem?_set, if_neg e]
      exact h1
  own := fun j zs q => by
    rw [List.getElem?_set] at q
    by_cases e : i = j
    · subst e
      rw [if_pos rfl] at q
      split at q <;> cases q
    · rw [if_neg e] at q
      obtain ⟨p, ys, h1, h2, h3, h4⟩ := f.own j zs q
      refine ⟨p, ys, ?_, h2, h3, RVs.mono drop_sees _ _ h4⟩
      unfold Wd.drop
      rw [List.getElem?_set, if_neg e]
      exact h1
  no := fun j q => by
    have hO := f.lenO
    unfold Wd.drop
    rw [List.getElem?_set] at q ⊢
    by_cases e : i = j
    · subst e
      rw [if_pos rfl] at q ⊢
      split at q
      · rw [if_pos (by omega)]
      · cases q
    · rw [if_neg e] at q ⊢
      exact f.no j q
/-- an address that others may not touch -/
def Wd.hide (w : Wd) (a : Addr) : Wd := { w with P := fun b => w.P b ∨ b = a }
theorem mut_hide {b : Addr} : (w.hide a).mut b → w.mut b ∨ b = a := by
  rintro (z | (z | z) | z)
  · exact .inl (.inl z)
  · exact .inl (.inr (.inl z))
  · exact .inr z
  · exact .inl (.inr (.inr z))
theorem hide_sees (hp : H a = none) : Sees w H (w.hide a) (upd H a o) where
  keep := fun b u q m => ⟨by rw [upd_ne (ne_of_none q hp)]; exact q, fun z => by
    rcases mut_hide z with z | z
    · exact m z
    · subst z
      rw [hp] at q
      cases q⟩
  refs := fun _ _ _ q => q
  len := Nat.le_refl _
theorem Hk.hide (k : Hk K g.adr w h H) (hp : H a = none) (hd : dat o = true := by rfl) : Hk K g.adr (w.hide a) h (upd H a o) where
  len := k.len
  inj := k.inj
  obj := fun n b hn => by
    obtain ⟨u, h1, h3⟩ := k.obj n b hn
    exact ⟨u, h1, RO.mono (hide_sees hp) u b (fun z q => by rw [upd_ne (ne_of_none q hp)]; exact q) h3⟩
  has := k.has
  prot := fun b hb => by
    have old : w.P b ∨ some b ∈ w.O → (upd H a o) b ≠ none ∧ some b ∉ (w.hide a).phi := fun z => by
      obtain ⟨h1, h2⟩ := k.prot b z
      refine ⟨?_, h2⟩
      rw [upd_ne (show b ≠ a from fun e => h1 (by rw [e]; exact hp))]
      exact h1
    rcases hb with (z | z) | z
    · exact old (.inl z)
    · subst z
      exact ⟨by rw [upd_same]; simp, fun z => k.live (.inl z) hp⟩
    · exact old (.inr z)
  own := fun b hb z => by
    rcases hb with q | q
    · exact k.own b q z
    · subst q
      exact k.live (.inr (.inr z)) hp
  ownI := k.ownI
  spc := k.spc.upd hd fun b ne => ⟨id, fun z => (mut_hide z).elim id fun e => (ne e).elim⟩
/-- what was hidden becomes one's own -/
def Wd.seek (w2 w1 : Wd) (i : Nat) (a : Addr) : Wd := { w2 with P := w1.P, O := w1.O.set i (some a) }
theorem mut_seek (e : Ext (w1.hide a) H1 w2 H2) {b : Addr} : (w2.seek w1 i a).mut b → w2.mut b := by
  have eP := e.P
  have eO := e.O
  rintro (z | z | z)
  · exact .inl z
  · exact .inr (.inl (by rw [eP]; exact .inl z))
  · rcases List.mem_or_eq_of_mem_set z with z | z
    · exact .inr (.inr (by rw [eO]; exact z))
    · cases z
      exact .inr (.inl (by rw [eP]; exact .inr rfl))
theorem seek_sees (e : Ext (w1.hide a) H1 w2 H2) : Sees w2 H2 (w2.seek w1 i a) H2 := ⟨fun b u q m => ⟨q, fun z => m (mut_seek e z)⟩, fun _ _ _ q => q, Nat.le_refl _⟩
theorem Hk.seek (k1 : Hk K g.adr w1 h1 H) (hp : H a = none) (e : Ext (w1.hide a) (upd H a o) w2 H2) (k2 : Hk K g.adr w2 h2 H2) (hd : dat o = true := by rfl) : Hk K g.adr (w2.seek w1 i a) h2 H2 where
  len := k2.len
  inj := k2.inj
  obj := fun n b hn => by
    obtain ⟨u, h1, h3⟩ := k2.obj n b hn
    exact ⟨u, h1, RO.mono (seek_sees e) u b (fun z q => q) h3⟩
  has := k2.has
  prot := fun b hb => by
    refine k2.prot b ?_
    rcases hb with z | z
    · exact .inl (by rw [e.P]; exact .inl z)
    · rcases List.mem_or_eq_of_mem_set z with z | z
      · exact .inr (by rw [e.O]; exact z)
      · cases z
        exact .inl (by rw [e.P]; exact .inr rfl)
  own := (k1.mkOwn (i := i) hp hd).own
  ownI := (k1.mkOwn (i := i) hp hd).ownI
  spc := k2.spc.imp fun b => ⟨id, mut_seek e⟩
theorem seek_ext (k1 : Hk K g.adr w1 h1 H) (hp : H a = none) (e : Ext (w1.hide a) (upd H a o) w2 H2) : ExtS w1 H (w2.seek w1 i a) H2 where
  keep := ((hide_sees (w := w1) (o := o) hp).trans (e.sees.trans (seek_sees e))).keep
  refs := ((hide_sees (w := w1) (o := o) hp).trans (e.sees.trans (seek_sees (i := i) e))).refs
  len := ((hide_sees (w := w1) (o := o) hp).trans (e.sees.trans (seek_sees (i := i) e))).len
  P := rfl
  prot := fun b hb => by
    rw [e.prot b (.inl (.inl hb)), upd_ne]
    intro z
    subst z
    exact k1.live (.inr (.inl hb)) hp
theorem own_seek (h0 : w1.O[i]? = some none) (e : Ext (w1.hide a) (upd H a o) w2 H2) : Ext (w1.own i a) (upd H a o) (w2.seek w1 i a) H2 where
  keep := fun b u q m => by
    have m2 : ¬ (w1.hide a).mut b := fun z => by
      have mem : ∀ c, (c = a ∨ some c ∈ w1.O) → some c ∈ w1.O.set i (some a) := fun c hc => by
        rcases hc with rfl | hc
        · exact List.mem_of_getElem? (i := i) (by rw [List.getElem?_set_self (List.getElem?_eq_some_iff.mp h0).1])
        · obtain ⟨n, hn⟩ := List.getElem?_of_mem hc
          refine List.mem_of_getElem? (i := n) ?_
          rw [List.getElem?_set_ne]
          · exact hn
          · intro z
            subst z
            rw [h0] at hn
            cases hn
      rcases z with z | (z | z) | z
      · exact m (.inl z)
      · exact m (.inr (.inl z))
      · exact m (.inr (.inr (mem b (.inl z))))
      · exact m (.inr (.inr (mem b (.inr z))))
    obtain ⟨q1, q2⟩ := e.keep b u q m2
    exact ⟨q1, fun z => q2 (mut_seek e z)⟩
  refs := e.refs
  len := e.len
  P := rfl
  O := rfl
  prot := fun b hb => by
    refine e.prot b ?_
    rcases hb with z | z
    · exact .inl (.inl z)
    · rcases List.mem_or_eq_of_mem_set z with z | z
      · exact .inr z
      · cases z
        exact .inl (.inr rfl)
end
/-- x, y = e, [..]: y one's own -/
def parVL2 (i j : Nat) (me : ME) (mb : MA) : MS := fun sl h => (me (view sl) h).toS sl fun v h1 => (mb (view sl) h1).toS sl fun xs h2 => if fits xs.length then .nx ((sl.set i (.val v)).set j (.own xs)) h2 else .bad
/-- x, y, z = e, f, [..]: z one's own -/
def parVVL3 (i j l : Nat) (me mf : ME) (mb : MA) : MS := fun sl h => (me (view sl) h).toS sl fun v h1 => (mf (view sl) h1).toS sl fun u h2 => (mb (view sl) h2).toS sl fun xs h3 => if fits xs.length then .nx (((sl.set i (.val v)).set j (.val u)).set l (.own xs)) h3 else .bad
/-- x, y = [..], e: x one's own -/
def parLV2 (i j : Nat) (mb : MA) (me : ME) : MS := fun sl h => match sl[i]? with
  | none => .bad
  | some _ => (mb (view (sl.set i .no)) h).toS (sl.set i .no) fun xs h1 => if fits xs.length then (match me (view (sl.set i .no)) h1 with
    | .ok v h2 => .nx (((sl.set i .no).set i (.own xs)).set j (.val v)) h2
    | _ => .bad) else .bad
section
variable {X : Cx} {g : Gx} {W : WX} {e e' : Expr} {es : List Expr} {me mf : ME} {mb : MA} {i j l : Nat} {x y z : Str} {px py pz p1 p2 pt pt2 pos : Pos} {kt k2 : Nat}
theorem rs_parVL2 (i j : Nat) (nd : X.N.Nodup) (hpe : RE X g W e me) (hb : RA X g W es mb) (hc : X.calm = true := by rfl) (hi : X.N[i]? = some x := by rfl) (hj : X.N[j]? = some y := by rfl) (hij : i ≠ j := by decide)
    (hx : X.env.scope.names.lookup x = some .local := by rfl) (hy : X.env.scope.names.lookup y = some .local := by rfl)
    (s1 : starEach (e :: [.List es p1]) X.env = (false, eval e X.env) :: starEach [.List es p1] X.env := by rfl)
    (hw : swappedStores [.Tuple [.Name x px, .Name y py] kt pt] (.Tuple [e, .List es p1] k2 pt2) X.env = pure (some [x, y]) := by rfl)
    (hs : swapsWithSole [.Tuple [.Name x px, .Name y py] kt pt] (.Tuple [e, .List es p1] k2 pt2) pos.line X.env = pure false := by rfl) :
    RS X g W (.Assign [.Tuple [.Name x px, .Name y py] kt pt] (.Tuple [e, .List es p1] k2 pt2) pos) (parVL2 i j me mb) := by
  refine ps_imp (ps_par hc nd hi hj hij hx hy (pa_cons hpe (pa_cons (pe_lst (pos := p1) hb) pa_nil) s1) hw hs) fun D σ H ⟨w, sl, h, f, k, p⟩ => ?_
  refine seqS f k p fun w1 H1 h1 v u e1 f1 k1 r1 q1 => ?_
  refine seqS f1 k1 q1 fun w2 H2 h2 vs us e2 f2 k2 r2 q2 => ?_
  split at q2
  · rename_i hf
    refine ⟨by rw [← RVs.length r2]; exact fits_le hf, fun a ha => ⟨_, _, rfl, ?_⟩⟩
    have f3 := f2.setv (i := i) (RV.mono e2.sees _ _ r1)
    exact q2 _ _ _ (drop_ext.trans (own_ext (i := j) k2.drop ha)) (k2.drop.mkOwn ha) (f3.mkOwn ha (RVs.mono drop_sees _ _ r2))
  · exact q2.elim
theorem rs_parVVL3 (i j l : Nat) (nd : X.N.Nodup) (hpe : RE X g W e me) (hpf : RE X g W e' mf) (hb : RA X g W es mb) (hc : X.calm = true := by rfl) (hi : X.N[i]? = some x := by rfl) (hj : X.N[j]? = some y := by rfl) (hl : X.N[l]? = some z := by rfl) (hij : i ≠ j := by decide) (hil : i ≠ l := by decide) (hjl : j ≠ l := by decide)
    (hx : X.env.scope.names.lookup x = some .local := by rfl) (hy : X.env.scope.names.lookup y = some .local := by rfl) (hz : X.env.scope.names.lookup z = some .local := by rfl)
    (s1 : starEach (e :: [e', .List es p1]) X.env = (false, eval e X.env) :: starEach [e', .List es p1] X.env := by rfl) (s2 : starEach (e' :: [.List es p1]) X.env = (false, eval e' X.env) :: starEach [.List es p1] X.env := by rfl)
    (hw : swappedStores [.Tuple [.Name x px, .Name y py, .Name z pz] kt pt] (.Tuple [e, e', .List es p1] k2 pt2) X.env = pure (some [x, y, z]) := by rfl)
    (hs : swapsWithSole [.Tuple [.Name x px, .Name y py, .Name z pz] kt pt] (.Tuple [e, e', .List es p1] k2 pt2) pos.line X.env = pure false := by rfl) :
    RS X g W (.Assign [.Tuple [.Name x px, .Name y py, .Name z pz] kt pt] (.Tuple [e, e', .List es p1] k2 pt2) pos) (parVVL3 i j l me mf mb) := by
  refine ps_imp (ps_par3 hc nd hi hj hl hij hil hjl hx hy hz (pa_cons hpe (pa_cons hpf (pa_cons (pe_lst (pos := p1) hb) pa_nil) s2) s1) hw hs) fun D σ H ⟨w, sl, h, f, k, p⟩ => ?_
  refine seqS f k p fun w1 H1 h1 v u e1 f1 k1 r1 q1 => ?_
  refine seqS f1 k1 q1 fun w2 H2 h2 v2 u2 e2 f2 k2 r2 q2 => ?_
  refine seqS f2 k2 q2 fun w3 H3 h3 vs us e3 f3 k3 r3 q3 => ?_
  split at q3
  · rename_i hf
    refine ⟨by rw [← RVs.length r3]; exact fits_le hf, fun a ha => ⟨_, _, _, rfl, ?_⟩⟩
    have f4 := (f3.setv (i := i) (RV.mono (e2.sees.trans e3.sees) _ _ r1)).setv (i := j) (RV.mono drop_sees _ _ (RV.mono e3.sees _ _ r2))
    exact q3 _ _ _ ((drop_ext.trans drop_ext).trans (own_ext (i := l) k3.drop.drop ha)) (k3.drop.drop.mkOwn ha) (f4.mkOwn ha (RVs.mono drop_sees _ _ (RVs.mono drop_sees _ _ r3)))
  · exact q3.elim
theorem rs_parLV2 (i j : Nat) (nd : X.N.Nodup) (hb : RA X g W es mb) (hpe : RE X g W e me) (hc : X.calm = true := by rfl) (hi : X.N[i]? = some x := by rfl) (hj : X.N[j]? = some y := by rfl) (hij : i ≠ j := by decide)
    (hx : X.env.scope.names.lookup x = some .local := by rfl) (hy : X.env.scope.names.lookup y = some .local := by rfl)
    (s2 : starEach [e] X.env = (false, eval e X.env) :: starEach [] X.env := by rfl)
    (hw : swappedStores [.Tuple [.Name x px, .Name y py] kt pt] (.Tuple [.List es p1, e] k2 pt2) X.env = pure (some [x, y]) := by rfl)
    (hs : swapsWithSole [.Tuple [.Name x px, .Name y py] kt pt] (.Tuple [.List es p1, e] k2 pt2) pos.line X.env = pure false := by rfl) :
    RS X g W (.Assign [.Tuple [.Name x px, .Name y py] kt pt] (.Tuple [.List es p1, e] k2 pt2) pos) (parLV2 i j mb me) := by
  refine ps_imp (ps_par hc nd hi hj hij hx hy (pa_cons (pe_lst (pos := p1) hb) (pa_cons hpe pa_nil s2)) hw hs) fun D σ H ⟨w, sl, h, f, k, p⟩ => ?_
  have f0 := f.noS (i := i)
  have k0 := k.drop (i := i)
  unfold parLV2 at p
  split at p
  · exact p.elim
  rename_i z0 hz0
  have hi2 : i < sl.length := (List.getElem?_eq_some_iff.mp hz0).1
  refine seqS f0 k0 (PostS.mono drop_ext p) fun w1 H1 h1 vs us e1 f1 k1 r1 q1 => ?_
  split at q1
  · rename_i hf
    refine ⟨by rw [← RVs.length r1]; exact fits_le hf, fun a ha => ?_⟩
    have kh := k1.hide (o := .lst us) ha
    have rs1 : RSl X.K g (w1.hide a) (upd H1 a (.lst us)) (view (sl.set i .no)) σ := f1.rsl.mono _ _ (hide_sees ha)
    have O0 : w1.O[i]? = some none := f1.no i (by rw [List.getElem?_set_self hi2])
    refine ⟨w1.hide a, view (sl.set i .no), h1, rs1, kh, ?_⟩
    cases em : me (view (sl.set i .no)) h1 with
    | ok v h2 =>
      rw [em] at q1
      intro w2 H2 u e2 k2 r2
      have k3 := k1.seek (i := i) ha e2 k2
      have f3 := (f1.mkOwn (i := i) ha r1).mono (own_seek O0 e2)
      have f4 := f3.setv (i := j) (RV.mono (seek_sees e2) _ _ r2)
      exact ⟨_, _, rfl, q1 _ _ _ ((seek_ext k1 ha e2).trans drop_ext) k3.drop f4⟩
    | exc x h2 => rw [em] at q1; exact q1.elim
    | bad => rw [em] at q1; exact q1.elim
  · exact q1.elim
end
end Mv
set_option Elab.async false
set_option linter.all false
set_option maxRecDepth 100000
/-! Mv, part BN: a list of the small heap taken out of it: from now on it stands still. -/
namespace Mv
open PySem PySem.Spec PyProof.Rows L2
def Wd.kill (w : Wd) (n : Nat) : Wd := { w with phi := w.phi.set n none }
section
variable {K : PySem.W.Frag} {g : Gx} {w w1 : Wd} {H H1 : Hp} {h h1 : VH} {n : Nat}
theorem kill_phi {m : Nat} {b : Addr} (e : (w.kill n).phi[m]? = some (some b)) : m ≠ n ∧ w.phi[m]? = some (some b) := by
  unfold Wd.kill at e
  rw [List.getElem?_set] at e
  split at e
  · split at e <;> cases e
  · rename_i q
    exact ⟨fun z => q z.symm, e⟩
theorem kill_mem {b : Addr} (e : some b ∈ (w.kill n).phi) : ∃ m, m ≠ n ∧ w.phi[m]? = some (some b) := by
  obtain ⟨m, hm⟩ := List.getElem?_of_mem e
  obtain ⟨h1, h2⟩ := kill_phi hm
  exact ⟨m, h1, h2⟩
theorem mut_kill {b : Addr} : (w.kill n).mut b → w.mut b := by
  rintro (z | z | z)
  · obtain ⟨m, _, h⟩ := kill_mem z
    exact .inl (List.mem_of_getElem? h)
  · exact .inr (.inl z)
  · exact .inr (.inr z)
theorem kill_sees : Sees w H (w.kill n) H := ⟨fun a o q m => ⟨q, fun z => m (mut_kill z)⟩, fun m b _ e => (kill_phi e).2, by unfold Wd.kill; rw [List.length_set]; exact Nat.le_refl _⟩
theorem kill_ext : Ext w H (w.kill n) H := ⟨(kill_sees (H := H)).keep, (kill_sees (H := H)).refs, (kill_sees (H := H)).len, rfl, rfl, fun _ _ => rfl⟩
theorem Hk.kill (k : Hk K g.adr w h H) {xs : List VV} (e : h[n]? = some (.lst xs)) : Hk K g.adr (w.kill n) (h.set n .dead) H where
  len := by unfold Wd.kill; rw [List.length_set, List.length_set]; exact k.len
  inj := fun m l a hm hl => k.inj m l a (kill_phi hm).2 (kill_phi hl).2
  obj := fun m a hm => by
    obtain ⟨ne, hm⟩ := kill_phi hm
    obtain ⟨u, h1, h3⟩ := k.obj m a hm
    exact ⟨u, by rw [List.getElem?_set_ne (Ne.symm ne)]; exact h1, RO.mono kill_sees u a (fun z q => q) h3⟩
  has := fun m u hm hu => by
    by_cases ne : m = n
    · subst ne
      rw [List.getElem?_set_self (List.getElem?_eq_some_iff.mp e).1] at hm
      cases hm
      exact absurd rfl hu
    · rw [List.getElem?_set_ne (Ne.symm ne)] at hm
      obtain ⟨a, ha⟩ := k.has m u hm hu
      refine ⟨a, ?_⟩
      unfold Wd.kill
      rw [List.getElem?_set_ne (Ne.symm ne)]
      exact ha
  prot := fun a ha => by
    obtain ⟨h1, h2⟩ := k.prot a ha
    refine ⟨h1, fun z => ?_⟩
    obtain ⟨m, _, hm⟩ := kill_mem z
    exact h2 (List.mem_of_getElem? hm)
  own := k.own
  ownI := k.ownI
  spc := fun a o q => by
    have s := k.spc a o q
    cases o with
    | tbl ps =>
      obtain ⟨m, hm⟩ := List.getElem?_of_mem (show some a ∈ w.phi from s)
      have ne : m ≠ n := fun z => by
        subst z
        obtain ⟨u, h1, h3⟩ := k.obj m a hm
        rw [e] at h1
        cases h1
        obtain ⟨ys, h4, _⟩ := h3
        rw [q] at h4
        cases h4
      refine List.mem_of_getElem? (i := m) ?_
      unfold Wd.kill
      rw [List.getElem?_set_ne (Ne.symm ne)]
      exact hm
    | ext _ => exact fun z m => s z (mut_kill m)
    | tup _ => exact fun m => s (mut_kill m)
    | _ => trivial
theorem kill_val (k : Hk K g.adr w h H) {xs : List VV} {y : V} (e : h[n]? = some (.lst xs)) (r : RV K g.adr w H (.ref n) y) : RV K g.adr (w.kill n) H (.lst xs) y := by
  obtain ⟨p, hp⟩ := k.has n _ e (fun z => nomatch z)
  simp only [RV] at r
  obtain ⟨a, rfl, _, h2⟩ := r
  have ea := h2 p hp
  subst ea
  obtain ⟨u, h3, h4⟩ := k.obj n p hp
  rw [e] at h3
  cases h3
  obtain ⟨ys, h5, h6⟩ := h4
  simp only [RV]
  refine ⟨p, ys, rfl, ⟨h5, fun m => ?_⟩, RVs.mono kill_sees _ _ h6⟩
  have inphi : some p ∈ w.phi := List.mem_of_getElem? hp
  rcases m with z | z | z
  · obtain ⟨m, ne, hm⟩ := kill_mem z
    exact ne (k.inj m n p hm hp)
  · exact (k.prot p (.inl z)).2 inphi
  · exact (k.prot p (.inr z)).2 inphi
end
/-- the list that e comes to is never written again -/
def frzV (x : VV) (h1 : VH) : Out VV := match x with
  | .ref n => (match h1[n]? with
    | some (.lst xs) => .ok (.lst xs) (h1.set n .dead)
    | _ => .bad)
  | x => .ok x h1
def frzM (m : ME) : ME := fun sv h => (m sv h).bind fun x h1 => frzV x h1
theorem re_frz {X : Cx} {g : Gx} {W : WX} {e : Expr} {m : ME} (he : RE X g W e m) : RE X g W e (frzM m) :=
  pe_imp he fun σ H Q ⟨w, sv, h, rs, hk, pp⟩ => by
    refine ⟨w, sv, h, rs, hk, ?_⟩
    unfold frzM at pp
    cases q : m sv h with
    | ok v h1 =>
      rw [q] at pp
      intro w1 H1 y e1 k1 r1
      have pp : Post X.K g (relV X.K g) w H σ Q W (frzV v h1) := pp
      unfold frzV at pp
      split at pp
      · rename_i n
        split at pp
        · rename_i xs en
          exact pp _ H1 y (e1.trans kill_ext) (k1.kill en) (kill_val k1 en r1)
        · exact pp.elim
      · exact pp w1 H1 y e1 k1 r1
    | exc x h1 => rw [q] at pp; exact pp
    | bad => rw [q] at pp; exact pp
/-! ### isinstance(x, T), x an instance with slots too -/
def noTyB (K : PySem.W.Frag) (C : Addr) : Bool := tyNames.all fun T => decide (PySem.W.kitOne K (.ref C) (.type T) = some false)
def isiIF (cs : List Nat) : VF := fun xs h => match xs with
  | [x, .ty t] => (match tyOf h x with
    | some u => .ok (.bl (subTy u t)) h
    | none => (match x with
      | .ref n => (match insAt h n with
        | some (c, _, _) => if cs.contains c then .ok (.bl false) h else .bad
        | none => .bad)
      | _ => .bad))
  | _ => .bad
theorem isiIS {K : PySem.W.Frag} {g : Gx} {cs : List Nat} (T : ClT K g cs) (k : (cs.all fun c => noTyB K (g.adr c)) = true) : CallS K g (rIsiY K) (isiIF cs) := by
  intro w h H σ W Q xs vs hk r p
  unfold isiIF at p
  split at p
  · rename_i x t
    obtain ⟨y, y', rfl, r1, r2⟩ := r.two
    simp only [RV] at r2
    subst r2
    split at p
    · rename_i u e
      exact ⟨y, _, _, _, _, rfl, .ty _, tyOf_ok hk r1 e, kit_sub _ _, post_bl p hk⟩
    · split at p
      · rename_i n
        split at p
        · rename_i c mm us ei
          split at p
          · rename_i hc
            obtain ⟨a, dx, ys, rfl, hs, _⟩ := insAt_ok hk r1 ei
            have h1 := List.all_eq_true.mp k c (by simpa using hc)
            have h2 : PySem.W.kitOne K (.ref (g.adr c)) (.type t.name) = some false := by
              have h3 := List.all_eq_true.mp h1
              cases t <;> exact of_decide_eq_true (h3 _ (by decide))
            exact ⟨_, _, _, _, _, rfl, .ty _, .sl hs (T c hc).c (T c hc).i, h2, post_bl p hk⟩
          · exact p.elim
        · exact p.elim
      · exact p.elim
  · exact p.elim
end Mv
set_option Elab.async false
set_option linter.all false
set_option maxRecDepth 100000
set_option pp.maxSteps 120
set_option pp.deepTerms false
namespace K45
open PySem PySem.Spec PyProof.Rows L2 Mv
def exmL : List (Nat × Nat × Bool) := [(1, 2, false), (1, 1, true), (1, 3, false), (1, 4, false), (2, 2, true), (2, 1, false), (2, 3, false), (2, 4, false), (3, 2, false), (3, 1, false), (3, 3, true), (3, 4, false), (4, 2, false), (4, 1, false), (4, 3, false), (4, 4, true)]
abbrev exm : Nat → Nat → Option Bool := exmT exmL
def hs_met : List (Nat × HK) := [(2, .txt "table"), (1, .txt "lot"), (3, .txt "operation"), (4, .rep "number ")]

def tsL : List (Nat × Str) := [(5, "_law_right.<locals>.<lambda>")]

def b_cup : MS := seqM (setM 2 (ifM (blM (opM ltV (varM 1) (callM lenAF (consA (varM 0) (nilA))))) (callM intF (consA (opM ixA (varM 0) (varM 1)) (nilA))) (opM addV (opM mulAV (cM (.int 283)) (varM 1)) (cM (.int 71))))) (seqM (setM 3 (opM modV (callM intF (consA (callM absF (consA (varM 2) (nilA))) (nilA))) (opM powV (opM powV (cM (.int 10)) (cM (.int 53))) (cM (.int 7))))) (seqM (setM 4 (callM intF (consA (opM addV (opM addV (opM addV (opM mulAV (opM modV (varM 3) (cM (.int 2305843009213693921))) (cM (.int 79))) (opM mulAV (cM (.int 4987)) (varM 1))) (opM mulAV (cM (.int 41)) (callM intF (consA (opM ltV (varM 2) (cM (.int 0))) (nilA))))) (cM (.int 53))) (nilA)))) (retV (newM (consA (callM maxF (consA (cM (.int 0)) (consA (opM subV (varM 3) (opM powV (cM (.int 10)) (cM (.int 16)))) (nilA)))) (consA (opM modV (varM 4) (cM (.int 2305843009213693951))) (consA (cM (.int 0)) (nilA))))))))
def m_cup : MF := fnM 5 2 b_cup

def b_tossed : MS := seqM (ifS (blM (opM gtV (opM ixA (varM 0) (cM (.int 0))) (cM (.int 0)))) (seqM (setM 2 (opM modV (callM intF (consA (opM ixA (varM 0) (cM (.int 0))) (nilA))) (varM 1))) (seqM (setAM (varM 0) (cM (.int 0)) (opM fdivV (opM ixA (varM 0) (cM (.int 0))) (varM 1))) (retV (varM 2)))) (skipM)) (seqM (setAM (varM 0) (cM (.int 2)) (opM addV (opM ixA (varM 0) (cM (.int 2))) (cM (.int 1)))) (seqM (setM 3 (opM modV (callM intF (consA (opM addV (opM ixA (varM 0) (cM (.int 1))) (opM mulAV (cM (.int 49979729)) (opM ixA (varM 0) (cM (.int 2))))) (nilA))) (cM (.int 2305843009213693951)))) (seqM (setM 4 (opM addV (opM addV (opM mulAV (opM modV (callM intF (consA (opM addV (opM mulAV (varM 3) (varM 3)) (cM (.int 86028049))) (nilA))) (cM (.int 2305843009213693907))) (cM (.int 32452867))) (varM 3)) (opM mulAV (cM (.int 29)) (opM ixA (varM 0) (cM (.int 2)))))) (retV (opM modV (callM intF (consA (opM fdivV (varM 4) (cM (.int 65537))) (nilA))) (varM 1))))))
def m_tossed : MF := fnM 5 2 b_tossed

def b_is_letter : MS := retV (andV (callM (isiIF [0]) (consA (varM 0) (consA (cM (.ty .int)) (nilA)))) (andV (notV (callM (isiIF [0]) (consA (varM 0) (consA (cM (.ty .bool)) (nilA))))) (chainM leV ltV (cM (.int 0)) (varM 0) (cM (.int 6)))))
def m_is_letter : MF := fnM 1 1 b_is_letter

def b_is_lot : MS := seqM (ifS (orT (notT (blM (callM (isiIF [0]) (consA (varM 0) (consA (cM (.ty .tuple)) (nilA)))))) (notT (blM (callM allF (consA (lcM (seqA (varM 0)) (nameG 1) [1] (yesT) (callF m_is_letter (consA (varM 1) (nilA)))) (nilA)))))) (retV (cM (.bl false))) (skipM)) (retV (callM allF (consA (lcM (zipI (consA (varM 0) (consA (sliceM (varM 0) (someO (cM (.int 1))) (noneO)) (nilA)))) (tupG (consG (nameG 2) (consG (nameG 3) (nilG)))) [2, 3] (yesT) (opM ltV (varM 2) (varM 3))) (nilA))))
def m_is_lot : MF := fnM 4 1 b_is_lot

def b_require_lot : MS := ifS (notT (blM (callF m_is_lot (consA (varM 0) (nilA))))) (raiseM 1) (skipM)
def m_require_lot : MF := fnM 1 1 b_require_lot

def b_is_whole : MS := retV (andV (callM (isiIF [0]) (consA (varM 0) (consA (cM (.ty .int)) (nilA)))) (notV (callM (isiIF [0]) (consA (varM 0) (consA (cM (.ty .bool)) (nilA))))))
def m_is_whole : MF := fnM 1 1 b_is_whole

def b_is_small : MS := retV (andV (callF m_is_whole (consA (varM 0) (nilA))) (chainM ltV ltV (negM (cM (.int 1000000000))) (varM 0) (cM (.int 1000000000))))
def m_is_small : MF := fnM 1 1 b_is_small

def b_is_row_in : MS := retV (andV (callM (isiIF [0]) (consA (varM 1) (consA (cM (.ty .tuple)) (nilA)))) (andV (opM (eqV false) (callM lenAF (consA (varM 1) (nilA))) (callM lenAF (consA (varM 0) (nilA)))) (callM allF (consA (lcM (seqA (varM 1)) (nameG 2) [2] (yesT) (callF m_is_small (consA (varM 2) (nilA)))) (nilA)))))
def m_is_row_in : MF := fnM 3 2 b_is_row_in

def b_are_rows : MS := retV (andV (callM (isiIF [0]) (consA (varM 1) (consA (cM (.ty .tuple)) (nilA)))) (andV (opM leV (callM lenAF (consA (varM 1) (nilA))) (cM (.int 1000))) (callM allF (consA (lcM (seqA (varM 1)) (nameG 2) [2] (yesT) (callF m_is_row_in (consA (varM 0) (consA (varM 2) (nilA))))) (nilA)))))
def m_are_rows : MF := fnM 3 2 b_are_rows

def b_lot_told : MS := retV (ifM (blM (opM (eqV true) (varM 0) (tupM (nilA)))) (joinM (cM (.str " ")) (lcM (seqA (varM 0)) (nameG 1) [1] (yesT) (callM strF (consA (varM 1) (nilA))))) (cM (.str "no letters")))
def m_lot_told : MF := fnM 2 1 b_lot_told

def b_Table_keep : MS := seqM (setSlM [(0, 2)] (varM 0) (dcTM (seqA (callM sortedAF (consA (varM 2) (nilA)))) (nameG 3) [3] (yesT) (varM 3) (cM (.bl true)))) (setSlsM [([(0, 0)], varM 0), ([(0, 1)], varM 0), ([(0, 3)], varM 0)] (tupM (consA (varM 1) (consA (callM tupleAF (consA (attrM [(0, 2)] (varM 0)) (nilA))) (consA (callF m_lot_told (consA (varM 1) (nilA))) (nilA))))))
def m_Table_keep : MF := fnM 4 3 b_Table_keep

def b_Table_init : MS := seqM (dropM (callF m_require_lot (consA (varM 1) (nilA)))) (seqM (ifS (notT (blM (callF m_are_rows (consA (varM 1) (consA (varM 2) (nilA)))))) (raiseM 2) (skipM)) (dropM (methM 0 m_Table_keep (varM 0) (consA (varM 1) (consA (varM 2) (nilA))))))
def m_Table_init : MF := fnM 3 3 b_Table_init

def b_lt_turned : MS := retV (opM ixA (varM 0) (opM modV (callM intF (consA (varM 1) (nilA))) (callM lenAF (consA (varM 0) (nilA)))))
def m_lt_turned : MF := fnM 2 2 b_lt_turned

def b_Table_rows : MS := retV (attrM [(0, 1)] (varM 0))
def m_Table_rows : MF := fnM 1 1 b_Table_rows

def b_is_table : MS := retV (callM (isiCF [0] [(0, 0, true)]) (consA (varM 0) (consA (cM (.adr 0)) (nilA))))
def m_is_table : MF := fnM 1 1 b_is_table

def b_require_table : MS := ifS (notT (blM (callF m_is_table (consA (varM 0) (nilA))))) (raiseM 2) (skipM)
def m_require_table : MF := fnM 1 1 b_require_table

def b_require_cut : MS := seqM (dropM (callF m_require_table (consA (varM 0) (nilA)))) (dropM (callF m_require_lot (consA (varM 1) (nilA))))
def m_require_cut : MF := fnM 2 2 b_require_cut

def b_within_in : MS := retV (callM allF (consA (lcM (seqA (varM 0)) (nameG 2) [2] (yesT) (opM (inA false) (varM 2) (varM 1))) (nilA)))
def m_within_in : MF := fnM 3 2 b_within_in

def b_need_within : MS := ifS (notT (blM (callF m_within_in (consA (varM 1) (consA (attrM [(0, 0)] (varM 0)) (nilA)))))) (raiseM 3) (skipM)
def m_need_within : MF := fnM 2 2 b_need_within

def b_groups_in : MS := seqM (asgM (tupG (consG (nameG 2) (consG (nameG 3) (nilG)))) (tupM (consA (lcM (seqA (varM 1)) (nameG 6) [6] (yesT) (indexM (attrM [(0, 0)] (varM 0)) (consA (varM 6) (nilA)))) (consA (newDT) (nilA))))) (seqM (forM (seqA (attrM [(0, 1)] (varM 0))) (nameG 4) (seqM (setM 5 (callM tupleAF (consA (lcM (seqA (varM 2)) (nameG 7) [7] (yesT) (opM ixA (varM 4) (varM 7))) (nilA)))) (seqM (ifS (blM (opM (inA true) (varM 5) (varM 3))) (setAM (varM 3) (varM 5) (newM (nilA))) (skipM)) (dropM (appR (opM ixA (varM 3) (varM 5)) (consA (varM 4) (nilA))))))) (retV (dcTM (seqA (callM sortedAF (consA (varM 3) (nilA)))) (nameG 5) [5] (yesT) (varM 5) (frzM (opM ixA (varM 3) (varM 5))))))
def m_groups_in : MF := fnM 8 2 b_groups_in

def b_groups_of : MS := seqM (dropM (callF m_require_cut (consA (varM 0) (consA (varM 1) (nilA))))) (seqM (dropM (callF m_need_within (consA (varM 0) (consA (varM 1) (nilA))))) (retV (dcTM (itemsI (callF m_groups_in (consA (varM 0) (consA (varM 1) (nilA))))) (tupG (consG (nameG 2) (consG (nameG 3) (nilG)))) [2, 3] (yesT) (varM 2) (callM lenAF (consA (varM 3) (nilA))))))
def m_groups_of : MF := fnM 4 2 b_groups_of

def b_is_within : MS := retV (andV (callF m_is_whole (consA (varM 0) (nilA))) (chainM leV leV (varM 1) (varM 0) (varM 2)))
def m_is_within : MF := fnM 3 3 b_is_within

def b_require_within : MS := ifS (notT (blM (callF m_is_within (consA (varM 0) (consA (varM 1) (consA (varM 2) (nilA))))))) (raiseV 4 (consA (varM 0) (nilA))) (skipM)
def m_require_within : MF := fnM 3 3 b_require_within

def b_require_cut_and_power : MS := seqM (dropM (callF m_require_cut (consA (varM 0) (consA (varM 1) (nilA))))) (seqM (dropM (callF m_require_within (consA (varM 2) (consA (cM (.int 0)) (consA (cM (.int 20)) (nilA)))))) (seqM (dropM (callF m_need_within (consA (varM 0) (consA (varM 1) (nilA))))) (ifS (blM (opM gtV (callM lenAF (consA (attrM [(0, 1)] (varM 0)) (nilA))) (opM shlV (cM (.int 1)) (varM 2)))) (raiseM 3) (skipM))))
def m_require_cut_and_power : MF := fnM 3 3 b_require_cut_and_power

def b_does_fit : MS := seqM (setM 4 (callF m_groups_in (consA (varM 0) (consA (varM 1) (nilA))))) (retV (andV (opM leV (callM lenAF (consA (varM 4) (nilA))) (opM shlV (cM (.int 1)) (opM subV (varM 2) (varM 3)))) (callM allF (consA (lcM (valsAI (varM 4)) (nameG 5) [5] (yesT) (opM leV (callM lenAF (consA (varM 5) (nilA))) (opM shlV (cM (.int 1)) (varM 3)))) (nilA)))))
def m_does_fit : MF := fnM 6 4 b_does_fit

def b_is_piece : MS := seqM (ifS (orT (notT (blM (callM (isiIF [0]) (consA (varM 3) (consA (cM (.ty .tuple)) (nilA)))))) (orT (blM (opM (eqV true) (callM lenAF (consA (varM 3) (nilA))) (cM (.int 2)))) (orT (notT (blM (callF m_is_within (consA (opM ixA (varM 3) (cM (.int 0))) (consA (cM (.int 0)) (consA (varM 2) (nilA))))))) (notT (blM (callF m_is_table (consA (opM ixA (varM 3) (cM (.int 1))) (nilA)))))))) (retV (cM (.bl false))) (skipM)) (seqM (ifS (orT (blM (opM (eqV true) (attrM [(0, 0)] (opM ixA (varM 3) (cM (.int 1)))) (attrM [(0, 0)] (varM 0)))) (blM (opM (eqV false) (attrM [(0, 1)] (opM ixA (varM 3) (cM (.int 1)))) (tupM (nilA))))) (retV (cM (.bl false))) (skipM)) (retV (callF m_does_fit (consA (opM ixA (varM 3) (cM (.int 1))) (consA (varM 1) (consA (varM 2) (consA (opM ixA (varM 3) (cM (.int 0))) (nilA))))))))
def m_is_piece : MF := fnM 4 4 b_is_piece

def b_is_parted : MS := seqM (dropM (callF m_require_cut_and_power (consA (varM 0) (consA (varM 1) (consA (varM 2) (nilA)))))) (seqM (ifS (orT (notT (blM (callM (isiIF [0]) (consA (varM 3) (consA (cM (.ty .tuple)) (nilA)))))) (blM (opM gtV (callM lenAF (consA (varM 3) (nilA))) (opM addV (opM mulAV (cM (.int 2)) (varM 2)) (cM (.int 1)))))) (retV (cM (.bl false))) (skipM)) (seqM (ifS (notT (blM (callM allF (consA (lcM (seqA (varM 3)) (nameG 5) [5] (yesT) (callF m_is_piece (consA (varM 0) (consA (varM 1) (consA (varM 2) (consA (varM 5) (nilA))))))) (nilA))))) (retV (cM (.bl false))) (skipM)) (seqM (setM 4 (lc2M (seqA (varM 3)) (tupG (consG (nameG 6) (consG (nameG 7) (nilG)))) (yesT) (seqA (attrM [(0, 1)] (varM 7))) (nameG 8) (yesT) [6, 7, 8] [8] (varM 8))) (retV (opM (eqV false) (callM sortedAF (consA (varM 4) (nilA))) (callM listF (consA (attrM [(0, 1)] (varM 0)) (nilA))))))))
def m_is_parted : MF := fnM 9 4 b_is_parted

def m_lm_right_13_1 : MF := fnE 3 (callF m_is_parted (consA (varM 0) (consA (varM 1) (consA (varM 2) (consA (cM .non) (nilA))))))

def b_power_in : MS := retV (ifM (blM (opM gtV (varM 0) (cM (.int 1)))) (bitsM (opM subV (varM 0) (cM (.int 1)))) (cM (.int 0)))
def m_power_in : MF := fnM 1 1 b_power_in

def b_made_table : MS := seqM (setM 2 (makeM 0 m_Table_init (consA (ktupM (nilA)) (consA (ktupM (nilA)) (nilA))))) (seqM (dropM (methM 0 m_Table_keep (varM 2) (consA (varM 0) (consA (varM 1) (nilA))))) (retV (varM 2)))
def m_made_table : MF := fnM 3 2 b_made_table

def b_parted_in : MS := seqM (parVL2 3 4 (listValsM (callF m_groups_in (consA (varM 0) (consA (varM 1) (nilA))))) (nilA)) (seqM (forM (rangeI (consA (opM addV (varM 2) (cM (.int 1))) (nilA))) (nameG 5) (seqM (parM 6 7 (consA (lcM (seqA (varM 3)) (nameG 9) [9] (blM (opM (eqV false) (callF m_power_in (consA (callM lenAF (consA (varM 9) (nilA))) (nilA))) (varM 5))) (varM 9)) (consA (opM shlV (cM (.int 1)) (opM subV (varM 2) (varM 5))) (nilA)))) (forM (seqA (tupM (consA (sliceM (varM 6) (noneO) (someO (varM 7))) (consA (sliceM (varM 6) (someO (varM 7)) (noneO)) (nilA))))) (nameG 8) (ifS (blM (opM (eqV true) (varM 8) (lstM (nilA)))) (appM 4 (consA (tupM (consA (varM 5) (consA (callF m_made_table (consA (attrM [(0, 0)] (varM 0)) (consA (lc2M (seqA (varM 8)) (nameG 9) (yesT) (seqA (varM 9)) (nameG 10) (yesT) [9, 10] [10] (varM 10)) (nilA)))) (nilA)))) (nilA))) (skipM))))) (retF (varM 4)))
def m_parted_in : MF := fnM 11 3 b_parted_in

def b_parted : MS := seqM (dropM (callF m_require_cut_and_power (consA (varM 0) (consA (varM 1) (consA (varM 2) (nilA)))))) (retV (callM tupleAF (consA (callF m_parted_in (consA (varM 0) (consA (varM 1) (consA (varM 2) (nilA))))) (nilA))))
def m_parted : MF := fnM 3 3 b_parted

def b_is_integer : MS := retV (andV (callF m_is_whole (consA (varM 0) (nilA))) (chainM ltV ltV (negM (cM (.int 1000000000))) (varM 0) (cM (.int 1000000000))))
def m_is_integer : MF := fnM 1 1 b_is_integer

def b_require_from_one : MS := ifS (orT (notT (blM (callF m_is_integer (consA (varM 0) (nilA))))) (blM (opM ltV (varM 0) (cM (.int 1))))) (raiseV 4 (consA (varM 0) (nilA))) (skipM)
def m_require_from_one : MF := fnM 1 1 b_require_from_one

def b_level_of : MS := seqM (dropM (callF m_require_from_one (consA (varM 0) (nilA)))) (retV (callF m_power_in (consA (varM 0) (nilA))))
def m_level_of : MF := fnM 1 1 b_level_of

def b_most_parts : MS := seqM (dropM (callF m_require_within (consA (varM 0) (consA (cM (.int 0)) (consA (cM (.int 20)) (nilA)))))) (retV (opM addV (opM mulAV (cM (.int 2)) (varM 0)) (cM (.int 1))))
def m_most_parts : MF := fnM 1 1 b_most_parts

def b_require_pieces : MS := seqM (ifS (orT (notT (blM (callM (isiIF [0]) (consA (varM 0) (consA (cM (.ty .tuple)) (nilA)))))) (notT (blM (chainM leV leV (cM (.int 1)) (callM lenAF (consA (varM 0) (nilA))) (cM (.int 50)))))) (raiseM 3) (skipM)) (forM (seqA (varM 0)) (nameG 1) (seqM (ifS (orT (notT (blM (callM (isiIF [0]) (consA (varM 1) (consA (cM (.ty .tuple)) (nilA)))))) (orT (blM (opM (eqV true) (callM lenAF (consA (varM 1) (nilA))) (cM (.int 2)))) (notT (blM (callF m_is_within (consA (opM ixA (varM 1) (cM (.int 0))) (consA (cM (.int 0)) (consA (cM (.int 20)) (nilA))))))))) (raiseM 3) (skipM)) (ifS (orT (notT (blM (callF m_is_table (consA (opM ixA (varM 1) (cM (.int 1))) (nilA))))) (blM (opM (eqV true) (attrM [(0, 0)] (opM ixA (varM 1) (cM (.int 1)))) (attrM [(0, 0)] (opM ixA (opM ixA (varM 0) (cM (.int 0))) (cM (.int 1))))))) (raiseM 3) (skipM))))
def m_require_pieces : MF := fnM 2 1 b_require_pieces

def b_put_together : MS := seqM (dropM (callF m_require_pieces (consA (varM 0) (nilA)))) (retV (callF m_made_table (consA (attrM [(0, 0)] (opM ixA (opM ixA (varM 0) (cM (.int 0))) (cM (.int 1)))) (consA (lc2M (seqA (varM 0)) (tupG (consG (nameG 1) (consG (nameG 2) (nilG)))) (yesT) (seqA (attrM [(0, 1)] (varM 2))) (nameG 3) (yesT) [1, 2, 3] [3] (varM 3)) (nilA)))))
def m_put_together : MF := fnM 4 1 b_put_together

def b_right : MS := seqM (setM 1 (makeM 0 m_Table_init (consA (ktupM (consA (cM (.int 0)) (consA (cM (.int 2)) (nilA)))) (consA (tupM (consA (tupM (consA (cM (.int 1)) (consA (cM (.int 5)) (nilA)))) (consA (tupM (consA (cM (.int 2)) (consA (cM (.int 5)) (nilA)))) (consA (tupM (consA (cM (.int 2)) (consA (cM (.int 6)) (nilA)))) (nilA))))) (nilA))))) (seqM (setM 2 (callF m_lt_turned (consA (lstM (consA (cM .non) (consA (cM (.int 0)) (consA (ktupM (nilA)) (consA (cM (.str "table")) (consA (cM (.dct [] [])) (consA (tupM (consA (ktupM (consA (cM (.int 0)) (consA (cM (.int 2)) (nilA)))) (consA (ktupM (nilA)) (nilA)))) (consA (lstM (consA (varM 1) (nilA))) (consA (cM (.bl true)) (nilA)))))))))) (consA (varM 0) (nilA))))) (seqM (setM 3 (callF m_lt_turned (consA (lstM (consA (cM .non) (consA (tupM (consA (cM (.int 2)) (consA (cM (.int 0)) (nilA)))) (consA (tupM (consA (cM (.int 6)) (nilA))) (consA (tupM (consA (negM (cM (.int 1))) (nilA))) (consA (lstM (consA (cM (.int 0)) (nilA))) (consA (tupM (consA (cM (.bl true)) (nilA))) (consA (cM (.str "0")) (consA (tupM (consA (cM (.int 0)) (consA (cM (.int 0)) (nilA)))) (consA (cM (.int 5)) (consA (cM (.dct [] [])) (consA (tupM (consA (cM (.str "0")) (nilA))) (nilA))))))))))))) (consA (varM 0) (nilA))))) (seqM (setM 4 (callF m_lt_turned (consA (lstM (consA (ktupM (consA (cM (.int 1)) (nilA))) (consA (ktupM (consA (cM (.int 0)) (consA (cM (.int 1)) (nilA)))) (consA (tupM (consA (cM (.int 0)) (consA (cM (.int 1)) (consA (cM (.int 2)) (nilA))))) (consA (tupM (consA (cM (.int 5)) (nilA))) (consA (tupM (consA (cM (.int 0)) (consA (cM (.int 2)) (consA (cM (.int 3)) (nilA))))) (nilA))))))) (consA (varM 0) (nilA))))) (seqM (setM 5 (callF m_lt_turned (consA (lstM (consA (cM .non) (consA (negM (cM (.int 1))) (consA (cM (.int 21)) (consA (cM (.bl true)) (consA (cM (.str "2")) (consA (tupM (consA (cM (.int 2)) (nilA))) (consA (opM powV (cM (.int 10)) (cM (.int 60))) (nilA))))))))) (consA (varM 0) (nilA))))) (seqM (setM 6 (callF m_lt_turned (consA (lstM (consA (cM .non) (consA (cM (.int 0)) (consA (negM (cM (.int 1))) (consA (cM (.bl true)) (consA (cM (.str "1")) (consA (ktupM (consA (cM (.int 1)) (nilA))) (consA (opM powV (cM (.int 10)) (cM (.int 9))) (consA (opM powV (cM (.int 10)) (cM (.int 60))) (nilA)))))))))) (consA (varM 0) (nilA))))) (seqM (setM 7 (lstM (consA (cM .non) (consA (ktupM (nilA)) (consA (lstM (consA (tupM (consA (cM (.int 0)) (consA (varM 1) (nilA)))) (nilA))) (consA (opM mulAV (tupM (consA (tupM (consA (cM (.int 0)) (consA (varM 1) (nilA)))) (nilA))) (cM (.int 51))) (consA (tupM (consA (varM 1) (nilA))) (consA (tupM (consA (ktupM (consA (cM (.int 0)) (nilA))) (nilA))) (consA (tupM (consA (tupM (consA (negM (cM (.int 1))) (consA (varM 1) (nilA)))) (nilA))) (consA (tupM (consA (tupM (consA (cM (.int 21)) (consA (varM 1) (nilA)))) (nilA))) (consA (tupM (consA (tupM (consA (cM (.bl true)) (consA (varM 1) (nilA)))) (nilA))) (nilA)))))))))))) (seqM (setM 7 (opM addV (varM 7) (lstM (consA (tupM (consA (tupM (consA (cM (.int 0)) (consA (propM [(0, m_Table_rows)] (varM 1)) (nilA)))) (nilA))) (consA (tupM (consA (tupM (consA (cM (.int 0)) (consA (varM 1) (nilA)))) (consA (tupM (consA (cM (.int 0)) (consA (makeM 0 m_Table_init (consA (ktupM (consA (cM (.int 0)) (nilA))) (consA (ktupM (nilA)) (nilA)))) (nilA)))) (nilA)))) (consA (tupM (consA (lstM (consA (cM (.int 0)) (consA (varM 1) (nilA)))) (nilA))) (consA (tupM (consA (tupM (consA (cM (.int 0)) (consA (varM 1) (consA (cM (.int 0)) (nilA))))) (nilA))) (consA (cM (.int 5)) (consA (cM (.dct [] [])) (consA (tupM (consA (cM (.str "0")) (nilA))) (nilA))))))))))) (seqM (setM 8 (callF m_lt_turned (consA (varM 7) (consA (varM 0) (nilA))))) (seqM (ownM 9 (consA (gcM (lamM 0 5 "_law_right.<locals>.<lambda>" (.txt "fine") exm hs_met (callF m_groups_of (consA (varM 2) (consA (varM 3) (nilA)))))) (nilA))) (seqM (appM 9 (consA (gcM (lamM 0 5 "_law_right.<locals>.<lambda>" (.txt "fine") exm hs_met (callF m_groups_of (consA (varM 1) (consA (varM 3) (nilA)))))) (nilA))) (seqM (appM 9 (consA (gcM (lamM 0 5 "_law_right.<locals>.<lambda>" (.txt "fine") exm hs_met (callF m_groups_of (consA (varM 1) (consA (varM 4) (nilA)))))) (nilA))) (seqM (setM 10 (lstM (consA (cM (.str "table")) (consA (cM (.str "lot")) (consA (cM (.str "operation")) (nilA)))))) (seqM (forM (seqA (tupM (consA (cM (.adr 7)) (consA (lamVM 0 5 "_law_right.<locals>.<lambda>" 6 13 1) (nilA))))) (nameG 11) (seqM (appM 9 (consA (gcM (lamM 0 5 "_law_right.<locals>.<lambda>" (.txt "fine") exm hs_met (callVL [(7, m_parted)] [(6, 13, 1, m_lm_right_13_1)] 11 (consA (varM 2) (consA (varM 3) (consA (varM 5) (nilA))))))) (nilA))) (seqM (appM 9 (consA (gcM (lamM 0 5 "_law_right.<locals>.<lambda>" (.txt "fine") exm hs_met (callVL [(7, m_parted)] [(6, 13, 1, m_lm_right_13_1)] 11 (consA (varM 1) (consA (varM 3) (consA (varM 5) (nilA))))))) (nilA))) (seqM (appM 9 (consA (gcM (lamM 0 5 "_law_right.<locals>.<lambda>" (.txt "fine") exm hs_met (callVL [(7, m_parted)] [(6, 13, 1, m_lm_right_13_1)] 11 (consA (varM 1) (consA (varM 4) (consA (varM 5) (nilA))))))) (nilA))) (seqM (appM 9 (consA (gcM (lamM 0 5 "_law_right.<locals>.<lambda>" (.txt "fine") exm hs_met (callVL [(7, m_parted)] [(6, 13, 1, m_lm_right_13_1)] 11 (consA (varM 1) (consA (varM 4) (consA (cM (.int 2)) (nilA))))))) (nilA))) (seqM (appM 9 (consA (gcM (lamM 0 5 "_law_right.<locals>.<lambda>" (.txt "fine") exm hs_met (callVL [(7, m_parted)] [(6, 13, 1, m_lm_right_13_1)] 11 (consA (varM 1) (consA (ktupM (consA (cM (.int 0)) (nilA))) (consA (cM (.int 1)) (nilA))))))) (nilA))) (seqM (appM 9 (consA (gcM (lamM 0 5 "_law_right.<locals>.<lambda>" (.txt "fine") exm hs_met (callVL [(7, m_parted)] [(6, 13, 1, m_lm_right_13_1)] 11 (consA (varM 1) (consA (ktupM (consA (cM (.int 0)) (nilA))) (consA (cM (.int 2)) (nilA))))))) (nilA))) (seqM (appM 9 (consA (gcM (lamM 0 5 "_law_right.<locals>.<lambda>" (.txt "fine") exm hs_met (callVL [(7, m_parted)] [(6, 13, 1, m_lm_right_13_1)] 11 (consA (varM 1) (consA (ktupM (nilA)) (consA (cM (.int 20)) (nilA))))))) (nilA))) (setM 10 (opM addV (varM 10) (lstM (consA (cM (.str "table")) (consA (cM (.str "lot")) (consA (opM addV (cM (.str "number ")) (callM reprF (consA (varM 5) (nilA)))) (consA (cM (.str "operation")) (consA (cM (.str "operation")) (consA (cM (.str "fine")) (consA (cM (.str "fine")) (nilA))))))))))))))))))) (seqM (appM 9 (consA (gcM (lamM 0 5 "_law_right.<locals>.<lambda>" (.txt "fine") exm hs_met (callF m_level_of (consA (varM 6) (nilA))))) (nilA))) (seqM (appM 9 (consA (gcM (lamM 0 5 "_law_right.<locals>.<lambda>" (.txt "fine") exm hs_met (callF m_most_parts (consA (varM 5) (nilA))))) (nilA))) (seqM (appM 9 (consA (gcM (lamM 0 5 "_law_right.<locals>.<lambda>" (.txt "fine") exm hs_met (callF m_put_together (consA (varM 8) (nilA))))) (nilA))) (seqM (appM 9 (consA (gcM (lamM 0 5 "_law_right.<locals>.<lambda>" (.txt "fine") exm hs_met (callF m_put_together (consA (opM mulAV (tupM (consA (tupM (consA (cM (.int 0)) (consA (varM 1) (nilA)))) (nilA))) (cM (.int 50))) (nilA))))) (nilA))) (retF (opM (eqV false) (varM 9) (opM addV (varM 10) (lstM (consA (opM addV (cM (.str "number ")) (callM reprF (consA (varM 6) (nilA)))) (consA (opM addV (cM (.str "number ")) (callM reprF (consA (varM 5) (nilA)))) (consA (cM (.str "operation")) (consA (cM (.str "fine")) (nilA))))))))))))))))))))))))))
def m_right : MF := fnM 12 1 b_right

def b_law : MS := seqM (forM (rangeI (consA (callM maxF (consA (cM (.int 1)) (consA (callM minF (consA (cM (.int 2)) (consA (callM lenAF (consA (varM 0) (nilA))) (nilA)))) (nilA)))) (nilA))) (nameG 1) (seqM (setM 2 (gcM (callF m_tossed (consA (callF m_cup (consA (varM 0) (consA (varM 1) (nilA)))) (consA (cM (.int 1000)) (nilA)))))) (forM (rangeI (consA (cM (.int 17)) (nilA))) (nameG 3) (ifS (notT (blM (gcM (callF m_right (consA (opM addV (varM 2) (varM 3)) (nilA)))))) (retV (cM (.bl false))) (skipM))))) (retV (opM (eqV false) (lstM (consA (callF m_most_parts (consA (cM (.int 0)) (nilA))) (consA (callF m_most_parts (consA (cM (.int 20)) (nilA))) (consA (callF m_level_of (consA (opM subV (opM powV (cM (.int 10)) (cM (.int 9))) (cM (.int 1))) (nilA))) (nilA))))) (lstM (consA (cM (.int 1)) (consA (cM (.int 41)) (consA (cM (.int 30)) (nilA)))))))
def m_law : MF := fnM 4 1 b_law

end K45
set_option Elab.async false
set_option linter.all false
set_option maxRecDepth 100000
/-! Mv, part BA: bounds of a product where * also repeats tuples. -/
namespace Mv
open PySem PySem.Spec PyProof.Rows L2
variable {a b : ME} {sv : Sv} {h : VH} {l1 u1 l2 u2 : Int}
theorem IB_mulA (x : IB a sv h l1 u1) (y : IB b sv h l2 u2) (h1 : 0 ≤ l1) (h2 : 0 ≤ l2) (s1 : Sm u1) (s2 : Sm u2) : IB (opM mulAV a b) sv h (l1 * l2) (u1 * u2) := by
  obtain ⟨i, e1, p1, p2⟩ := x
  obtain ⟨j, e2, q1, q2⟩ := y
  have c := mulC_small (s1.of (Int.le_trans h1 p1) p2) (s2.of (Int.le_trans h2 q1) q2)
  refine ⟨i * j, by simp only [opM, e1, e2, Out.bind, mulAV, mulV, c, if_true], ?_, ?_⟩
  · exact Int.mul_le_mul p1 q1 h2 (Int.le_trans h1 p1)
  · exact Int.mul_le_mul p2 q2 (Int.le_trans h2 q1) (Int.le_trans (Int.le_trans h1 p1) p2)
end Mv
set_option Elab.async false
set_option linter.all false
set_option maxRecDepth 100000
set_option pp.maxSteps 120
set_option pp.deepTerms false
namespace K45
open PySem PySem.Spec PyProof.Rows L2 Mv
set_option maxHeartbeats 0
theorem hat_b {ns : List Int} {s : Int} (s0 : 0 ≤ s) (s1 : s ≤ 64) (h : VH) : ∃ i j : Int, b_cup [.val (.rol (ns.map VV.int)), .val (.int s), .no, .no, .no] h = .rt (.ref h.length) (h ++ [.lst [.int i, .int j, .int 0]]) ∧ (0 ≤ i ∧ i ≤ 99999999999999999999999999999999999999999999999999999999999999999999999999999999999999999999999999999999999999999999999999999999999999999999999999999999999999999999999999999999999999999999999999999999999999999999999999999999999999999999999999999999999999999999999999999999999999999999999999999999999999999999999999999999999999999999999999999999999999999989999999999999999) ∧ 0 ≤ j ∧ j ≤ 2305843009213693950 := by
  obtain ⟨cell, e2⟩ := set_IA (i := 2) (sl := [.val (.rol (ns.map VV.int)), .val (.int s), .no, .no, .no]) (h := h) (cell_ok (ns := ns) (s := s) (c := 283) (d := 71) (f := lenAF) rfl rfl rfl s0 s1 (by decide) (by unfold Sm; decide +kernel))
  obtain ⟨great, e3, great0, great1⟩ := set_IB (i := 3) (sl := [.val (.rol (ns.map VV.int)), .val (.int s), .val (.int cell), .no, .no]) (h := h) (IB.wk (l1 := 0) (u1 := 99999999999999999999999999999999999999999999999999999999999999999999999999999999999999999999999999999999999999999999999999999999999999999999999999999999999999999999999999999999999999999999999999999999999999999999999999999999999999999999999999999999999999999999999999999999999999999999999999999999999999999999999999999999999999999999999999999999999999999999999999999999999) (IB_mod ((IA_int ((IA_abs ((IA_var (j := 2) rfl)))))) ((IB_eq (i := 100000000000000000000000000000000000000000000000000000000000000000000000000000000000000000000000000000000000000000000000000000000000000000000000000000000000000000000000000000000000000000000000000000000000000000000000000000000000000000000000000000000000000000000000000000000000000000000000000000000000000000000000000000000000000000000000000000000000000000000000000000000000) (by kernel_rfl))) (by decide +kernel)) (by decide +kernel) (by decide +kernel))
  obtain ⟨seed, e4, seed0, seed1⟩ := set_IB (i := 4) (sl := [.val (.rol (ns.map VV.int)), .val (.int s), .val (.int cell), .val (.int great), .no]) (h := h) (IB_int ((IB.wk (l1 := 53) (u1 := 182161597727882138942) (IB_add ((IB.wk (l1 := 0) (u1 := 182161597727882138889) (IB_add ((IB.wk (l1 := 0) (u1 := 182161597727882138848) (IB_add ((IB.wk (l1 := 0) (u1 := 182161597727881819680) (IB_mulA ((IB.wk (l1 := 0) (u1 := 2305843009213693920) (IB_mod (IB.ia ((IB_var (j := 3) (l := 0) (u := 99999999999999999999999999999999999999999999999999999999999999999999999999999999999999999999999999999999999999999999999999999999999999999999999999999999999999999999999999999999999999999999999999999999999999999999999999999999999999999999999999999999999999999999999999999999999999999999999999999999999999999999999999999999999999999999999999999999999999999999999999999999999) rfl great0 great1))) ((IB_c (i := 2305843009213693921))) (by decide +kernel)) (by decide +kernel) (by decide +kernel))) ((IB_c (i := 79))) (by decide +kernel) (by decide +kernel) (by unfold Sm; decide +kernel) (by unfold Sm; decide +kernel)) (by decide +kernel) (by decide +kernel))) ((IB.wk (l1 := 0) (u1 := 319168) (IB_mulA ((IB_c (i := 4987))) ((IB_var (j := 1) (l := 0) (u := 64) rfl s0 s1)) (by decide +kernel) (by decide +kernel) (by unfold Sm; decide +kernel) (by unfold Sm; decide +kernel)) (by decide +kernel) (by decide +kernel)))) (by decide +kernel) (by decide +kernel))) ((IB.wk (l1 := 0) (u1 := 41) (IB_mulA ((IB_c (i := 41))) ((IB_lt ((IA_var (j := 2) rfl)) (IB.ia ((IB_c (i := 0)))))) (by decide +kernel) (by decide +kernel) (by unfold Sm; decide +kernel) (by unfold Sm; decide +kernel)) (by decide +kernel) (by decide +kernel)))) (by decide +kernel) (by decide +kernel))) ((IB_c (i := 53)))) (by decide +kernel) (by decide +kernel))))
  obtain ⟨i, j, k, e, i0, j0, k0, k1⟩ := new3 (sl := [.val (.rol (ns.map VV.int)), .val (.int s), .val (.int cell), .val (.int great), .val (.int seed)]) (h := h) (IB_max0 ((IB.wk (l1 := (-10000000000000000)) (u1 := 99999999999999999999999999999999999999999999999999999999999999999999999999999999999999999999999999999999999999999999999999999999999999999999999999999999999999999999999999999999999999999999999999999999999999999999999999999999999999999999999999999999999999999999999999999999999999999999999999999999999999999999999999999999999999999999999999999999999999999989999999999999999) (IB_sub ((IB_var (j := 3) (l := 0) (u := 99999999999999999999999999999999999999999999999999999999999999999999999999999999999999999999999999999999999999999999999999999999999999999999999999999999999999999999999999999999999999999999999999999999999999999999999999999999999999999999999999999999999999999999999999999999999999999999999999999999999999999999999999999999999999999999999999999999999999999999999999999999999) rfl great0 great1)) ((IB_eq (i := 10000000000000000) (by kernel_rfl)))) (by decide +kernel) (by decide +kernel))) (by decide +kernel)) (IB.wk (l1 := 0) (u1 := 2305843009213693950) (IB_mod (IB.ia ((IB_var (j := 4) (l := 53) (u := 182161597727882138942) rfl seed0 seed1))) ((IB_c (i := 2305843009213693951))) (by decide +kernel)) (by decide +kernel) (by decide +kernel)) (IB_c (i := 0))
  obtain rfl : k = 0 := Int.le_antisymm k1 k0
  exact ⟨i, j, (seqM_nx (sl1 := [.val (.rol (ns.map VV.int)), .val (.int s), .val (.int cell), .no, .no]) e2).trans ((seqM_nx (sl1 := [.val (.rol (ns.map VV.int)), .val (.int s), .val (.int cell), .val (.int great), .no]) e3).trans ((seqM_nx (sl1 := [.val (.rol (ns.map VV.int)), .val (.int s), .val (.int cell), .val (.int great), .val (.int seed)]) e4).trans (e))), ⟨by omega, i0.2⟩, by omega, j0.2⟩
theorem up_b (h : VH) {a b : Int} (a0 : 0 ≤ a ∧ a ≤ 99999999999999999999999999999999999999999999999999999999999999999999999999999999999999999999999999999999999999999999999999999999999999999999999999999999999999999999999999999999999999999999999999999999999999999999999999999999999999999999999999999999999999999999999999999999999999999999999999999999999999999999999999999999999999999999999999999999999999999989999999999999999) (b0 : 0 ≤ b ∧ b ≤ 2305843009213693950) : ∃ (i : Int) (o : VO), b_tossed [.val (.ref h.length), .val (.int 1000), .no, .no, .no] (h ++ [.lst [.int a, .int b, .int 0]]) = .rt (.int i) (h ++ [o]) ∧ ntO o = true ∧ 0 ≤ i ∧ i < 1000 := by
  have x0 : opM ixA (varM 0) (cM (.int 0)) (view [.val (.ref h.length), .val (.int 1000), .no, .no, .no]) (h ++ [.lst [.int a, .int b, .int 0]]) = .ok (.int a) (h ++ [.lst [.int a, .int b, .int 0]]) := by
    obtain ⟨i, e, h1, h2⟩ := IB_ix (k := 0) (j := 0) (sv := view [.val (.ref h.length), .val (.int 1000), .no, .no, .no]) (h := (h ++ [.lst [.int a, .int b, .int 0]])) (l := a) (u := a) rfl last_get rfl (Int.le_refl _) (Int.le_refl _)
    obtain rfl : i = a := Int.le_antisymm h2 h1
    exact e
  by_cases c : a > 0
  · obtain ⟨z, e1, z0, z1⟩ := set_IB (i := 2) (sl := [.val (.ref h.length), .val (.int 1000), .no, .no, .no]) (h := (h ++ [.lst [.int a, .int b, .int 0]])) (IB.wk (l1 := 0) (u1 := 999) (IB_mod ((IA_int (IB.ia ((IB_ix (j := 0) (k := 0) (l := 0) (u := 99999999999999999999999999999999999999999999999999999999999999999999999999999999999999999999999999999999999999999999999999999999999999999999999999999999999999999999999999999999999999999999999999999999999999999999999999999999999999999999999999999999999999999999999999999999999999999999999999999999999999999999999999999999999999999999999999999999999999999989999999999999999) rfl last_get rfl a0.1 a0.2))))) ((IB_var (j := 1) (l := 1000) (u := 1000) rfl (Int.le_refl _) (Int.le_refl _))) (by decide +kernel)) (by decide +kernel) (by decide +kernel))
    obtain ⟨y, e2, y0, y1⟩ := setA_IB (j := 0) (k := 0) (sl := [.val (.ref h.length), .val (.int 1000), .val (.int z), .no, .no]) (h := (h ++ [.lst [.int a, .int b, .int 0]])) (xs := [.int a, .int b, .int 0]) (IB.wk (l1 := 0) (u1 := 99999999999999999999999999999999999999999999999999999999999999999999999999999999999999999999999999999999999999999999999999999999999999999999999999999999999999999999999999999999999999999999999999999999999999999999999999999999999999999999999999999999999999999999999999999999999999999999999999999999999999999999999999999999999999999999999999999999999999999989999999999999999) (IB_fdiv ((IB_ix (j := 0) (k := 0) (l := 0) (u := 99999999999999999999999999999999999999999999999999999999999999999999999999999999999999999999999999999999999999999999999999999999999999999999999999999999999999999999999999999999999999999999999999999999999999999999999999999999999999999999999999999999999999999999999999999999999999999999999999999999999999999999999999999999999999999999999999999999999999999989999999999999999) rfl last_get rfl a0.1 a0.2)) ((IB_var (j := 1) (l := 1000) (u := 1000) rfl (Int.le_refl _) (Int.le_refl _))) (by decide +kernel) (by decide +kernel) (by unfold Sm; decide +kernel)) (by decide +kernel) (by decide +kernel)) rfl last_get rfl
    rw [last_set] at e2
    exact ⟨z, .lst [.int y, .int b, .int 0], seqM_rt ((if_gt x0).trans ((if_pos c).trans ((seqM_nx (sl1 := [.val (.ref h.length), .val (.int 1000), .val (.int z), .no, .no]) e1).trans ((seqM_nx e2).trans rfl)))), rfl, z0, by omega⟩
  · obtain ⟨n, e2, n0, n1⟩ := setA_IB (j := 0) (k := 2) (sl := [.val (.ref h.length), .val (.int 1000), .no, .no, .no]) (h := (h ++ [.lst [.int a, .int b, .int 0]])) (xs := [.int a, .int b, .int 0]) (IB.wk (l1 := 1) (u1 := 1) (IB_add ((IB_ix (j := 0) (k := 2) (l := 0) (u := 0) rfl last_get rfl (Int.le_refl _) (Int.le_refl _))) ((IB_c (i := 1)))) (by decide +kernel) (by decide +kernel)) rfl last_get rfl
    rw [last_set] at e2
    obtain ⟨one, f0, one0, one1⟩ := set_IB (i := 3) (sl := [.val (.ref h.length), .val (.int 1000), .no, .no, .no]) (h := (h ++ [.lst [.int a, .int b, .int n]])) (IB.wk (l1 := 0) (u1 := 2305843009213693950) (IB_mod ((IA_int (IB.ia ((IB.wk (l1 := 49979729) (u1 := 2305843009263673679) (IB_add ((IB_ix (j := 0) (k := 1) (l := 0) (u := 2305843009213693950) rfl last_get rfl b0.1 b0.2)) ((IB.wk (l1 := 49979729) (u1 := 49979729) (IB_mulA ((IB_c (i := 49979729))) ((IB_ix (j := 0) (k := 2) (l := 1) (u := 1) rfl last_get rfl n0 n1)) (by decide +kernel) (by decide +kernel) (by unfold Sm; decide +kernel) (by unfold Sm; decide +kernel)) (by decide +kernel) (by decide +kernel)))) (by decide +kernel) (by decide +kernel)))))) ((IB_c (i := 2305843009213693951))) (by decide +kernel)) (by decide +kernel) (by decide +kernel))
    obtain ⟨two, f1, two0, two1⟩ := set_IB (i := 4) (sl := [.val (.ref h.length), .val (.int 1000), .no, .val (.int one), .no]) (h := (h ++ [.lst [.int a, .int b, .int n]])) (IB.wk (l1 := 29) (u1 := 74831218806734792123822481) (IB_add ((IB.wk (l1 := 0) (u1 := 74831218806734792123822452) (IB_add ((IB.wk (l1 := 0) (u1 := 74831216500891782910128502) (IB_mulA ((IB.wk (l1 := 0) (u1 := 2305843009213693906) (IB_mod ((IA_int (IB.ia ((IB.wk (l1 := 86028049) (u1 := 5316911983139663482391856204352630549) (IB_add ((IB.wk (l1 := 0) (u1 := 5316911983139663482391856204266602500) (IB_mulA ((IB_var (j := 3) (l := 0) (u := 2305843009213693950) rfl one0 one1)) ((IB_var (j := 3) (l := 0) (u := 2305843009213693950) rfl one0 one1)) (by decide +kernel) (by decide +kernel) (by unfold Sm; decide +kernel) (by unfold Sm; decide +kernel)) (by decide +kernel) (by decide +kernel))) ((IB_c (i := 86028049)))) (by decide +kernel) (by decide +kernel)))))) ((IB_c (i := 2305843009213693907))) (by decide +kernel)) (by decide +kernel) (by decide +kernel))) ((IB_c (i := 32452867))) (by decide +kernel) (by decide +kernel) (by unfold Sm; decide +kernel) (by unfold Sm; decide +kernel)) (by decide +kernel) (by decide +kernel))) ((IB_var (j := 3) (l := 0) (u := 2305843009213693950) rfl one0 one1))) (by decide +kernel) (by decide +kernel))) ((IB.wk (l1 := 29) (u1 := 29) (IB_mulA ((IB_c (i := 29))) ((IB_ix (j := 0) (k := 2) (l := 1) (u := 1) rfl last_get rfl n0 n1)) (by decide +kernel) (by decide +kernel) (by unfold Sm; decide +kernel) (by unfold Sm; decide +kernel)) (by decide +kernel) (by decide +kernel)))) (by decide +kernel) (by decide +kernel))
    obtain ⟨z, e3, z0, z1⟩ := ret_IB (sl := [.val (.ref h.length), .val (.int 1000), .no, .val (.int one), .val (.int two)]) (h := (h ++ [.lst [.int a, .int b, .int n]])) (IB.wk (l1 := 0) (u1 := 999) (IB_mod ((IA_int (IB.ia ((IB.wk (l1 := 0) (u1 := 74831218806734792123822481) (IB_fdiv ((IB_var (j := 4) (l := 29) (u := 74831218806734792123822481) rfl two0 two1)) ((IB_c (i := 65537))) (by decide +kernel) (by decide +kernel) (by unfold Sm; decide +kernel)) (by decide +kernel) (by decide +kernel)))))) ((IB_var (j := 1) (l := 1000) (u := 1000) rfl (Int.le_refl _) (Int.le_refl _))) (by decide +kernel)) (by decide +kernel) (by decide +kernel))
    exact ⟨z, .lst [.int a, .int b, .int n], (seqM_nx ((if_gt x0).trans ((if_neg c).trans rfl))).trans ((seqM_nx (sl1 := [.val (.ref h.length), .val (.int 1000), .no, .no, .no]) e2).trans ((seqM_nx (sl1 := [.val (.ref h.length), .val (.int 1000), .no, .val (.int one), .no]) f0).trans ((seqM_nx (sl1 := [.val (.ref h.length), .val (.int 1000), .no, .val (.int one), .val (.int two)]) f1).trans (e3)))), rfl, z0, by omega⟩
theorem hat_ok {ns : List Int} {s : Int} (s0 : 0 ≤ s) (s1 : s ≤ 64) (h : VH) : ∃ i j : Int, m_cup [.rol (ns.map VV.int), .int s] h = .ok (.ref h.length) (h ++ [.lst [.int i, .int j, .int 0]]) ∧ (0 ≤ i ∧ i ≤ 99999999999999999999999999999999999999999999999999999999999999999999999999999999999999999999999999999999999999999999999999999999999999999999999999999999999999999999999999999999999999999999999999999999999999999999999999999999999999999999999999999999999999999999999999999999999999999999999999999999999999999999999999999999999999999999999999999999999999999989999999999999999) ∧ 0 ≤ j ∧ j ≤ 2305843009213693950 := by
  obtain ⟨i, j, e, h1, h2⟩ := hat_b (ns := ns) s0 s1 h
  exact ⟨i, j, fn_rt rfl rfl e, h1, h2⟩
theorem up_ok (h : VH) {a b : Int} (a0 : 0 ≤ a ∧ a ≤ 99999999999999999999999999999999999999999999999999999999999999999999999999999999999999999999999999999999999999999999999999999999999999999999999999999999999999999999999999999999999999999999999999999999999999999999999999999999999999999999999999999999999999999999999999999999999999999999999999999999999999999999999999999999999999999999999999999999999999999989999999999999999) (b0 : 0 ≤ b ∧ b ≤ 2305843009213693950) : ∃ (i : Int) (o : VO), m_tossed [.ref h.length, .int 1000] (h ++ [.lst [.int a, .int b, .int 0]]) = .ok (.int i) (h ++ [o]) ∧ ntO o = true ∧ 0 ≤ i ∧ i < 1000 := by
  obtain ⟨i, o, e, h1, h2⟩ := up_b h a0 b0
  exact ⟨i, o, fn_rt rfl rfl e, h1, h2⟩
theorem shift_ok {ns : List Int} {s : Int} {sv : Sv} {i0 i1 : Nat} (e0 : sv[i0]? = some (some (.rol (ns.map VV.int)))) (e1 : sv[i1]? = some (some (.int s))) (s0 : 0 ≤ s) (s1 : s ≤ 64) :
    ∃ i : Int, gcM (callF m_tossed (consA (callF m_cup (consA (varM i0) (consA (varM i1) (nilA)))) (consA (cM (.int 1000)) (nilA)))) sv (hT tsL) = .ok (.int i) (hT tsL) ∧ 0 ≤ i ∧ i < 1000 := by
  obtain ⟨a, b, ea, a0, b0⟩ := hat_ok (ns := ns) s0 s1 (hT tsL)
  obtain ⟨i, o, ei, nt, z0, z1⟩ := up_ok (hT tsL) a0 b0
  refine ⟨i, gc_1 (o := o) ?_ rfl nt, z0, z1⟩
  refine call_2 (call_2 (h1 := hT tsL) (h2 := hT tsL) (by simp only [varM, e0]) (by simp only [varM, e1]) ea) rfl ei
end K45
set_option Elab.async false
set_option linter.all false
set_option maxRecDepth 100000
/-! Mv, part BO: what is known of an expression at one heap is looked up there. -/
namespace Mv
open PySem PySem.Spec PyProof.Rows L2
mutual
def eqVV : VV → VV → Bool
  | .non, .non => true
  | .bl a, .bl b => a == b
  | .int i, .int j => decide (i = j)
  | .str x, .str y => decide (x = y)
  | .tup xs, .tup ys => eqVVs xs ys
  | .lst xs, .lst ys => eqVVs xs ys
  | .rol xs, .rol ys => eqVVs xs ys
  | .ktu xs, .ktu ys => eqVVs xs ys
  | .dct a b, .dct c d => eqVVs a c && eqVVs b d
  | .dtt a b, .dtt c d => eqVVs a c && eqVVs b d
  | .ins n xs, .ins m ys => Nat.beq n m && eqVVs xs ys
  | .ref n, .ref m => Nat.beq n m
  | .adr n, .adr m => Nat.beq n m
  | _, _ => false
def eqVVs : List VV → List VV → Bool
  | [], [] => true
  | x :: xs, y :: ys => eqVV x y && eqVVs xs ys
  | _, _ => false
end
mutual
theorem eqVV_ok : ∀ (a b : VV), eqVV a b = true → a = b := fun a b h => by
  cases a <;> cases b <;> first
    | rfl
    | (simp only [eqVV] at h; cases h; done)
    | (simp only [eqVV, beq_iff_eq] at h; subst h; rfl)
    | (simp only [eqVV, decide_eq_true_eq] at h; subst h; rfl)
    | (simp only [eqVV] at h; rw [Nat.eq_of_beq_eq_true h])
    | (simp only [eqVV] at h; rw [eqVVs_ok _ _ h])
    | (simp only [eqVV, Bool.and_eq_true] at h; rw [eqVVs_ok _ _ h.1, eqVVs_ok _ _ h.2])
    | (simp only [eqVV, Bool.and_eq_true] at h; rw [Nat.eq_of_beq_eq_true h.1, eqVVs_ok _ _ h.2])
theorem eqVVs_ok : ∀ (a b : List VV), eqVVs a b = true → a = b := fun a b h => by
  cases a with
  | nil =>
    cases b with
    | nil => rfl
    | cons _ _ => simp only [eqVVs] at h; cases h
  | cons x xs =>
    cases b with
    | nil => simp only [eqVVs] at h; cases h
    | cons y ys =>
      simp only [eqVVs, Bool.and_eq_true] at h
      rw [eqVV_ok x y h.1, eqVVs_ok xs ys h.2]
end
def eqVs : List (Option VV) → List (Option VV) → Bool
  | [], [] => true
  | none :: r, none :: q => eqVs r q
  | some x :: r, some y :: q => eqVV x y && eqVs r q
  | _, _ => false
theorem eqVs_ok : ∀ (a b : List (Option VV)), eqVs a b = true → a = b
  | [], [], _ => rfl
  | none :: r, none :: q, h => by unfold eqVs at h; rw [eqVs_ok r q h]
  | some x :: r, some y :: q, h => by
    unfold eqVs at h
    rw [Bool.and_eq_true] at h
    rw [eqVV_ok x y h.1, eqVs_ok r q h.2]
  | [], none :: _, h => by cases h
  | [], some _ :: _, h => by cases h
  | none :: _, [], h => by cases h
  | some _ :: _, [], h => by cases h
  | none :: _, some _ :: _, h => by cases h
  | some _ :: _, none :: _, h => by cases h
def eqVO : VO → VO → Bool
  | .lst a, .lst b => eqVVs a b
  | .dead, .dead => true
  | .tbl n q, .tbl m r => Nat.beq n m && decide (q = r)
  | .dtt a b, .dtt c d => eqVVs a c && eqVVs b d
  | .dct a b, .dct c d => eqVVs a c && eqVVs b d
  | .ins c m a, .ins d n b => Nat.beq c d && (Nat.beq m n && eqVs a b)
  | .sub a, .sub b => a == b
  | _, _ => false
theorem eqVO_ok (a b : VO) (h : eqVO a b = true) : a = b := by
  cases a <;> cases b <;> first
    | rfl
    | (simp only [eqVO] at h; cases h; done)
    | (simp only [eqVO, beq_iff_eq] at h; subst h; rfl)
    | (simp only [eqVO] at h; rw [eqVVs_ok _ _ h])
    | (simp only [eqVO, Bool.and_eq_true, decide_eq_true_eq] at h; rw [Nat.eq_of_beq_eq_true h.1, h.2])
    | (simp only [eqVO, Bool.and_eq_true] at h; rw [eqVVs_ok _ _ h.1, eqVVs_ok _ _ h.2])
    | (simp only [eqVO, Bool.and_eq_true] at h; rw [Nat.eq_of_beq_eq_true h.1, Nat.eq_of_beq_eq_true h.2.1, eqVs_ok _ _ h.2.2])
def eqVH : VH → VH → Bool
  | [], [] => true
  | x :: xs, y :: ys => eqVO x y && eqVH xs ys
  | _, _ => false
theorem eqVH_ok : ∀ (a b : VH), eqVH a b = true → a = b
  | [], [], _ => rfl
  | x :: xs, y :: ys, h => by
    unfold eqVH at h
    rw [Bool.and_eq_true] at h
    rw [eqVO_ok x y h.1, eqVH_ok xs ys h.2]
  | [], _ :: _, h => by cases h
  | _ :: _, [], h => by cases h
def svOk : List (Nat × VV) → Sv → Bool
  | [], _ => true
  | p :: r, sv => (match sv[p.1]? with | some (some v) => eqVV v p.2 | _ => false) && svOk r sv
theorem svOk_at : ∀ {ps : List (Nat × VV)} {sv : Sv}, svOk ps sv = true → ∀ p ∈ ps, sv[p.1]? = some (some p.2)
  | [], _, _, p, hp => by cases hp
  | q :: r, sv, h, p, hp => by
    unfold svOk at h
    rw [Bool.and_eq_true] at h
    rcases List.mem_cons.mp hp with z | z
    · subst z
      have h1 := h.1
      split at h1
      · rename_i v e
        rw [e, eqVV_ok _ _ h1]
      · cases h1
    · exact svOk_at h.2 p z
/-- m, known at these slots and that heap -/
def memoM (n : Nat) (ps : List (Nat × VV)) (hh : VH) (v : VV) (h2 : VH) (m : ME) : ME := fun sv h => match Nat.beq sv.length n && (svOk ps sv && eqVH h hh) with
  | true => .ok v h2
  | false => m sv h
theorem memo_eq {n : Nat} {ps : List (Nat × VV)} {hh : VH} {v : VV} {h2 : VH} {m : ME} (e : ∀ sv : Sv, sv.length = n → (∀ p ∈ ps, sv[p.1]? = some (some p.2)) → m sv hh = .ok v h2) : memoM n ps hh v h2 m = m := by
  funext sv h
  unfold memoM
  split
  · rename_i c
    simp only [Bool.and_eq_true] at c
    obtain ⟨c1, c2, c3⟩ := c
    rw [eqVH_ok _ _ c3]
    exact (e sv (Nat.eq_of_beq_eq_true c1) (svOk_at c2)).symm
  · rfl
end Mv
set_option Elab.async false
set_option linter.all false
set_option maxRecDepth 100000
set_option pp.maxSteps 120
set_option pp.deepTerms false
namespace K45
open PySem PySem.Spec PyProof.Rows L2 Mv
set_option maxHeartbeats 0
def hh : VH := [Mv.VO.tbl 5     {       cps :=         {           toList :=             [95, 108, 97, 119, 95, 114, 105, 103, 104, 116, 46, 60, 108, 111, 99, 97, 108, 115, 62, 46, 60, 108, 97,               109, 98, 100, 97, 62] } },   Mv.VO.sub Bool.true,   Mv.VO.ins 0 1     [Option.some (Mv.VV.ktu [Mv.VV.int (Int.ofNat 0), Mv.VV.int (Int.ofNat 2)]),       Option.some         (Mv.VV.tup           [Mv.VV.tup [Mv.VV.int (Int.ofNat 1), Mv.VV.int (Int.ofNat 5)],             Mv.VV.tup [Mv.VV.int (Int.ofNat 2), Mv.VV.int (Int.ofNat 5)],             Mv.VV.tup [Mv.VV.int (Int.ofNat 2), Mv.VV.int (Int.ofNat 6)]]),       Option.some         (Mv.VV.dtt           [Mv.VV.tup [Mv.VV.int (Int.ofNat 1), Mv.VV.int (Int.ofNat 5)],             Mv.VV.tup [Mv.VV.int (Int.ofNat 2), Mv.VV.int (Int.ofNat 5)],             Mv.VV.tup [Mv.VV.int (Int.ofNat 2), Mv.VV.int (Int.ofNat 6)]]           [Mv.VV.bl Bool.true, Mv.VV.bl Bool.true, Mv.VV.bl Bool.true]),       Option.some (Mv.VV.str { cps := { toList := [48, 32, 50] } })],   Mv.VO.sub Bool.true,   Mv.VO.ins 0 3     [Option.some (Mv.VV.ktu [Mv.VV.int (Int.ofNat 0)]), Option.some (Mv.VV.tup []), Option.some (Mv.VV.dtt [] []),       Option.some (Mv.VV.str { cps := { toList := [48] } })]]
def ms0 : ME := gcM (lamM 0 5 "_law_right.<locals>.<lambda>" (.txt "fine") exm hs_met (callVL [(7, m_parted)] [(6, 13, 1, m_lm_right_13_1)] 11 (consA (varM 1) (consA (ktupM (consA (cM (.int 0)) (nilA))) (consA (cM (.int 1)) (nilA))))))
theorem mm0 : memoM 12 [(1, (Mv.VV.ref 2)), (11, (.adr 7))] hh ((.str "operation")) hh ms0 = ms0 := memo_eq fun sv hl hp => match sv, hl, hp with
  | [x0, x1, x2, x3, x4, x5, x6, x7, x8, x9, x10, x11], _, hp => by
    have e1 : x1 = some (Mv.VV.ref 2) := Option.some.inj (hp (1, (Mv.VV.ref 2)) (by simp))
    have e11 : x11 = some (.adr 7) := Option.some.inj (hp (11, (.adr 7)) (by simp))
    subst e1 e11
    kernel_rfl
def ms1 : ME := memoM 12 [(1, (Mv.VV.ref 2)), (11, (.adr 7))] hh ((.str "operation")) hh ms0
theorem mm1 : memoM 12 [(1, (Mv.VV.ref 2)), (11, (.ins 7 [.int 13, .int 1]))] hh ((.str "operation")) hh ms1 = ms1 := memo_eq fun sv hl hp => match sv, hl, hp with
  | [x0, x1, x2, x3, x4, x5, x6, x7, x8, x9, x10, x11], _, hp => by
    have e1 : x1 = some (Mv.VV.ref 2) := Option.some.inj (hp (1, (Mv.VV.ref 2)) (by simp))
    have e11 : x11 = some (.ins 7 [.int 13, .int 1]) := Option.some.inj (hp (11, (.ins 7 [.int 13, .int 1])) (by simp))
    subst e1 e11
    kernel_rfl
def ms2 : ME := gcM (lamM 0 5 "_law_right.<locals>.<lambda>" (.txt "fine") exm hs_met (callVL [(7, m_parted)] [(6, 13, 1, m_lm_right_13_1)] 11 (consA (varM 1) (consA (ktupM (consA (cM (.int 0)) (nilA))) (consA (cM (.int 2)) (nilA))))))
theorem mm2 : memoM 12 [(1, (Mv.VV.ref 2)), (11, (.adr 7))] hh ((.str "fine")) hh ms2 = ms2 := memo_eq fun sv hl hp => match sv, hl, hp with
  | [x0, x1, x2, x3, x4, x5, x6, x7, x8, x9, x10, x11], _, hp => by
    have e1 : x1 = some (Mv.VV.ref 2) := Option.some.inj (hp (1, (Mv.VV.ref 2)) (by simp))
    have e11 : x11 = some (.adr 7) := Option.some.inj (hp (11, (.adr 7)) (by simp))
    subst e1 e11
    kernel_rfl
def ms3 : ME := memoM 12 [(1, (Mv.VV.ref 2)), (11, (.adr 7))] hh ((.str "fine")) hh ms2
theorem mm3 : memoM 12 [(1, (Mv.VV.ref 2)), (11, (.ins 7 [.int 13, .int 1]))] hh ((.str "fine")) hh ms3 = ms3 := memo_eq fun sv hl hp => match sv, hl, hp with
  | [x0, x1, x2, x3, x4, x5, x6, x7, x8, x9, x10, x11], _, hp => by
    have e1 : x1 = some (Mv.VV.ref 2) := Option.some.inj (hp (1, (Mv.VV.ref 2)) (by simp))
    have e11 : x11 = some (.ins 7 [.int 13, .int 1]) := Option.some.inj (hp (11, (.ins 7 [.int 13, .int 1])) (by simp))
    subst e1 e11
    kernel_rfl
def ms4 : ME := gcM (lamM 0 5 "_law_right.<locals>.<lambda>" (.txt "fine") exm hs_met (callVL [(7, m_parted)] [(6, 13, 1, m_lm_right_13_1)] 11 (consA (varM 1) (consA (ktupM (nilA)) (consA (cM (.int 20)) (nilA))))))
theorem mm4 : memoM 12 [(1, (Mv.VV.ref 2)), (11, (.adr 7))] hh ((.str "fine")) hh ms4 = ms4 := memo_eq fun sv hl hp => match sv, hl, hp with
  | [x0, x1, x2, x3, x4, x5, x6, x7, x8, x9, x10, x11], _, hp => by
    have e1 : x1 = some (Mv.VV.ref 2) := Option.some.inj (hp (1, (Mv.VV.ref 2)) (by simp))
    have e11 : x11 = some (.adr 7) := Option.some.inj (hp (11, (.adr 7)) (by simp))
    subst e1 e11
    kernel_rfl
def ms5 : ME := memoM 12 [(1, (Mv.VV.ref 2)), (11, (.adr 7))] hh ((.str "fine")) hh ms4
theorem mm5 : memoM 12 [(1, (Mv.VV.ref 2)), (11, (.ins 7 [.int 13, .int 1]))] hh ((.str "fine")) hh ms5 = ms5 := memo_eq fun sv hl hp => match sv, hl, hp with
  | [x0, x1, x2, x3, x4, x5, x6, x7, x8, x9, x10, x11], _, hp => by
    have e1 : x1 = some (Mv.VV.ref 2) := Option.some.inj (hp (1, (Mv.VV.ref 2)) (by simp))
    have e11 : x11 = some (.ins 7 [.int 13, .int 1]) := Option.some.inj (hp (11, (.ins 7 [.int 13, .int 1])) (by simp))
    subst e1 e11
    kernel_rfl
def ms6 : ME := gcM (lamM 0 5 "_law_right.<locals>.<lambda>" (.txt "fine") exm hs_met (callF m_put_together (consA (opM mulAV (tupM (consA (tupM (consA (cM (.int 0)) (consA (varM 1) (nilA)))) (nilA))) (cM (.int 50))) (nilA))))
theorem mm6 : memoM 12 [(1, (Mv.VV.ref 2))] hh ((.str "fine")) hh ms6 = ms6 := memo_eq fun sv hl hp => match sv, hl, hp with
  | [x0, x1, x2, x3, x4, x5, x6, x7, x8, x9, x10, x11], _, hp => by
    have e1 : x1 = some (Mv.VV.ref 2) := Option.some.inj (hp (1, (Mv.VV.ref 2)) (by simp))
    subst e1
    kernel_rfl
def bq : MS := seqM (setM 1 (makeM 0 m_Table_init (consA (ktupM (consA (cM (.int 0)) (consA (cM (.int 2)) (nilA)))) (consA (tupM (consA (tupM (consA (cM (.int 1)) (consA (cM (.int 5)) (nilA)))) (consA (tupM (consA (cM (.int 2)) (consA (cM (.int 5)) (nilA)))) (consA (tupM (consA (cM (.int 2)) (consA (cM (.int 6)) (nilA)))) (nilA))))) (nilA))))) (seqM (setM 2 (callF m_lt_turned (consA (lstM (consA (cM .non) (consA (cM (.int 0)) (consA (ktupM (nilA)) (consA (cM (.str "table")) (consA (cM (.dct [] [])) (consA (tupM (consA (ktupM (consA (cM (.int 0)) (consA (cM (.int 2)) (nilA)))) (consA (ktupM (nilA)) (nilA)))) (consA (lstM (consA (varM 1) (nilA))) (consA (cM (.bl true)) (nilA)))))))))) (consA (varM 0) (nilA))))) (seqM (setM 3 (callF m_lt_turned (consA (lstM (consA (cM .non) (consA (tupM (consA (cM (.int 2)) (consA (cM (.int 0)) (nilA)))) (consA (tupM (consA (cM (.int 6)) (nilA))) (consA (tupM (consA (negM (cM (.int 1))) (nilA))) (consA (lstM (consA (cM (.int 0)) (nilA))) (consA (tupM (consA (cM (.bl true)) (nilA))) (consA (cM (.str "0")) (consA (tupM (consA (cM (.int 0)) (consA (cM (.int 0)) (nilA)))) (consA (cM (.int 5)) (consA (cM (.dct [] [])) (consA (tupM (consA (cM (.str "0")) (nilA))) (nilA))))))))))))) (consA (varM 0) (nilA))))) (seqM (setM 4 (callF m_lt_turned (consA (lstM (consA (ktupM (consA (cM (.int 1)) (nilA))) (consA (ktupM (consA (cM (.int 0)) (consA (cM (.int 1)) (nilA)))) (consA (tupM (consA (cM (.int 0)) (consA (cM (.int 1)) (consA (cM (.int 2)) (nilA))))) (consA (tupM (consA (cM (.int 5)) (nilA))) (consA (tupM (consA (cM (.int 0)) (consA (cM (.int 2)) (consA (cM (.int 3)) (nilA))))) (nilA))))))) (consA (varM 0) (nilA))))) (seqM (setM 5 (callF m_lt_turned (consA (lstM (consA (cM .non) (consA (negM (cM (.int 1))) (consA (cM (.int 21)) (consA (cM (.bl true)) (consA (cM (.str "2")) (consA (tupM (consA (cM (.int 2)) (nilA))) (consA (opM powV (cM (.int 10)) (cM (.int 60))) (nilA))))))))) (consA (varM 0) (nilA))))) (seqM (setM 6 (callF m_lt_turned (consA (lstM (consA (cM .non) (consA (cM (.int 0)) (consA (negM (cM (.int 1))) (consA (cM (.bl true)) (consA (cM (.str "1")) (consA (ktupM (consA (cM (.int 1)) (nilA))) (consA (opM powV (cM (.int 10)) (cM (.int 9))) (consA (opM powV (cM (.int 10)) (cM (.int 60))) (nilA)))))))))) (consA (varM 0) (nilA))))) (seqM (setM 7 (lstM (consA (cM .non) (consA (ktupM (nilA)) (consA (lstM (consA (tupM (consA (cM (.int 0)) (consA (varM 1) (nilA)))) (nilA))) (consA (opM mulAV (tupM (consA (tupM (consA (cM (.int 0)) (consA (varM 1) (nilA)))) (nilA))) (cM (.int 51))) (consA (tupM (consA (varM 1) (nilA))) (consA (tupM (consA (ktupM (consA (cM (.int 0)) (nilA))) (nilA))) (consA (tupM (consA (tupM (consA (negM (cM (.int 1))) (consA (varM 1) (nilA)))) (nilA))) (consA (tupM (consA (tupM (consA (cM (.int 21)) (consA (varM 1) (nilA)))) (nilA))) (consA (tupM (consA (tupM (consA (cM (.bl true)) (consA (varM 1) (nilA)))) (nilA))) (nilA)))))))))))) (seqM (setM 7 (opM addV (varM 7) (lstM (consA (tupM (consA (tupM (consA (cM (.int 0)) (consA (propM [(0, m_Table_rows)] (varM 1)) (nilA)))) (nilA))) (consA (tupM (consA (tupM (consA (cM (.int 0)) (consA (varM 1) (nilA)))) (consA (tupM (consA (cM (.int 0)) (consA (makeM 0 m_Table_init (consA (ktupM (consA (cM (.int 0)) (nilA))) (consA (ktupM (nilA)) (nilA)))) (nilA)))) (nilA)))) (consA (tupM (consA (lstM (consA (cM (.int 0)) (consA (varM 1) (nilA)))) (nilA))) (consA (tupM (consA (tupM (consA (cM (.int 0)) (consA (varM 1) (consA (cM (.int 0)) (nilA))))) (nilA))) (consA (cM (.int 5)) (consA (cM (.dct [] [])) (consA (tupM (consA (cM (.str "0")) (nilA))) (nilA))))))))))) (seqM (setM 8 (callF m_lt_turned (consA (varM 7) (consA (varM 0) (nilA))))) (seqM (ownM 9 (consA (gcM (lamM 0 5 "_law_right.<locals>.<lambda>" (.txt "fine") exm hs_met (callF m_groups_of (consA (varM 2) (consA (varM 3) (nilA)))))) (nilA))) (seqM (appM 9 (consA (gcM (lamM 0 5 "_law_right.<locals>.<lambda>" (.txt "fine") exm hs_met (callF m_groups_of (consA (varM 1) (consA (varM 3) (nilA)))))) (nilA))) (seqM (appM 9 (consA (gcM (lamM 0 5 "_law_right.<locals>.<lambda>" (.txt "fine") exm hs_met (callF m_groups_of (consA (varM 1) (consA (varM 4) (nilA)))))) (nilA))) (seqM (setM 10 (lstM (consA (cM (.str "table")) (consA (cM (.str "lot")) (consA (cM (.str "operation")) (nilA)))))) (seqM (forM (seqA (tupM (consA (cM (.adr 7)) (consA (lamVM 0 5 "_law_right.<locals>.<lambda>" 6 13 1) (nilA))))) (nameG 11) (seqM (appM 9 (consA (gcM (lamM 0 5 "_law_right.<locals>.<lambda>" (.txt "fine") exm hs_met (callVL [(7, m_parted)] [(6, 13, 1, m_lm_right_13_1)] 11 (consA (varM 2) (consA (varM 3) (consA (varM 5) (nilA))))))) (nilA))) (seqM (appM 9 (consA (gcM (lamM 0 5 "_law_right.<locals>.<lambda>" (.txt "fine") exm hs_met (callVL [(7, m_parted)] [(6, 13, 1, m_lm_right_13_1)] 11 (consA (varM 1) (consA (varM 3) (consA (varM 5) (nilA))))))) (nilA))) (seqM (appM 9 (consA (gcM (lamM 0 5 "_law_right.<locals>.<lambda>" (.txt "fine") exm hs_met (callVL [(7, m_parted)] [(6, 13, 1, m_lm_right_13_1)] 11 (consA (varM 1) (consA (varM 4) (consA (varM 5) (nilA))))))) (nilA))) (seqM (appM 9 (consA (gcM (lamM 0 5 "_law_right.<locals>.<lambda>" (.txt "fine") exm hs_met (callVL [(7, m_parted)] [(6, 13, 1, m_lm_right_13_1)] 11 (consA (varM 1) (consA (varM 4) (consA (cM (.int 2)) (nilA))))))) (nilA))) (seqM (appM 9 (consA (memoM 12 [(1, (Mv.VV.ref 2)), (11, (.ins 7 [.int 13, .int 1]))] hh ((.str "operation")) hh ms1) (nilA))) (seqM (appM 9 (consA (memoM 12 [(1, (Mv.VV.ref 2)), (11, (.ins 7 [.int 13, .int 1]))] hh ((.str "fine")) hh ms3) (nilA))) (seqM (appM 9 (consA (memoM 12 [(1, (Mv.VV.ref 2)), (11, (.ins 7 [.int 13, .int 1]))] hh ((.str "fine")) hh ms5) (nilA))) (setM 10 (opM addV (varM 10) (lstM (consA (cM (.str "table")) (consA (cM (.str "lot")) (consA (opM addV (cM (.str "number ")) (callM reprF (consA (varM 5) (nilA)))) (consA (cM (.str "operation")) (consA (cM (.str "operation")) (consA (cM (.str "fine")) (consA (cM (.str "fine")) (nilA))))))))))))))))))) (seqM (appM 9 (consA (gcM (lamM 0 5 "_law_right.<locals>.<lambda>" (.txt "fine") exm hs_met (callF m_level_of (consA (varM 6) (nilA))))) (nilA))) (seqM (appM 9 (consA (gcM (lamM 0 5 "_law_right.<locals>.<lambda>" (.txt "fine") exm hs_met (callF m_most_parts (consA (varM 5) (nilA))))) (nilA))) (seqM (appM 9 (consA (gcM (lamM 0 5 "_law_right.<locals>.<lambda>" (.txt "fine") exm hs_met (callF m_put_together (consA (varM 8) (nilA))))) (nilA))) (seqM (appM 9 (consA (memoM 12 [(1, (Mv.VV.ref 2))] hh ((.str "fine")) hh ms6) (nilA))) (retF (opM (eqV false) (varM 9) (opM addV (varM 10) (lstM (consA (opM addV (cM (.str "number ")) (callM reprF (consA (varM 6) (nilA)))) (consA (opM addV (cM (.str "number ")) (callM reprF (consA (varM 5) (nilA)))) (consA (cM (.str "operation")) (consA (cM (.str "fine")) (nilA))))))))))))))))))))))))))
theorem bq_eq : bq = b_right := by
  unfold bq b_right
  rw [mm1]
  unfold ms1
  rw [mm0]
  unfold ms0
  rw [mm3]
  unfold ms3
  rw [mm2]
  unfold ms2
  rw [mm5]
  unfold ms5
  rw [mm4]
  unfold ms4
  rw [mm6]
  unfold ms6
  rfl
def mq : MF := fnM 12 1 bq
theorem mq_eq : mq = m_right := by unfold mq m_right; rw [bq_eq]
def rf (n : Int) : Out VV := gcM (fun _ h => mq [.int n] h) [] (hT tsL)
theorem c0 : (List.range 64).map (fun i => rf ((0 * 64 + i : Nat) : Int)) = List.replicate 64 (.ok (.bl true) (hT tsL)) := by kernel_rfl
theorem c1 : (List.range 64).map (fun i => rf ((1 * 64 + i : Nat) : Int)) = List.replicate 64 (.ok (.bl true) (hT tsL)) := by kernel_rfl
theorem c2 : (List.range 64).map (fun i => rf ((2 * 64 + i : Nat) : Int)) = List.replicate 64 (.ok (.bl true) (hT tsL)) := by kernel_rfl
theorem c3 : (List.range 64).map (fun i => rf ((3 * 64 + i : Nat) : Int)) = List.replicate 64 (.ok (.bl true) (hT tsL)) := by kernel_rfl
theorem c4 : (List.range 64).map (fun i => rf ((4 * 64 + i : Nat) : Int)) = List.replicate 64 (.ok (.bl true) (hT tsL)) := by kernel_rfl
theorem c5 : (List.range 64).map (fun i => rf ((5 * 64 + i : Nat) : Int)) = List.replicate 64 (.ok (.bl true) (hT tsL)) := by kernel_rfl
theorem c6 : (List.range 64).map (fun i => rf ((6 * 64 + i : Nat) : Int)) = List.replicate 64 (.ok (.bl true) (hT tsL)) := by kernel_rfl
theorem c7 : (List.range 64).map (fun i => rf ((7 * 64 + i : Nat) : Int)) = List.replicate 64 (.ok (.bl true) (hT tsL)) := by kernel_rfl
theorem c8 : (List.range 64).map (fun i => rf ((8 * 64 + i : Nat) : Int)) = List.replicate 64 (.ok (.bl true) (hT tsL)) := by kernel_rfl
theorem c9 : (List.range 64).map (fun i => rf ((9 * 64 + i : Nat) : Int)) = List.replicate 64 (.ok (.bl true) (hT tsL)) := by kernel_rfl
theorem c10 : (List.range 64).map (fun i => rf ((10 * 64 + i : Nat) : Int)) = List.replicate 64 (.ok (.bl true) (hT tsL)) := by kernel_rfl
theorem c11 : (List.range 64).map (fun i => rf ((11 * 64 + i : Nat) : Int)) = List.replicate 64 (.ok (.bl true) (hT tsL)) := by kernel_rfl
theorem c12 : (List.range 64).map (fun i => rf ((12 * 64 + i : Nat) : Int)) = List.replicate 64 (.ok (.bl true) (hT tsL)) := by kernel_rfl
theorem c13 : (List.range 64).map (fun i => rf ((13 * 64 + i : Nat) : Int)) = List.replicate 64 (.ok (.bl true) (hT tsL)) := by kernel_rfl
theorem c14 : (List.range 64).map (fun i => rf ((14 * 64 + i : Nat) : Int)) = List.replicate 64 (.ok (.bl true) (hT tsL)) := by kernel_rfl
theorem c15 : (List.range 64).map (fun i => rf ((15 * 64 + i : Nat) : Int)) = List.replicate 64 (.ok (.bl true) (hT tsL)) := by kernel_rfl
theorem right_ok {v : Int} (h0 : 0 ≤ v) (h1 : v < 1016) : gcM (fun _ h => m_right [.int v] h) [] (hT tsL) = .ok (.bl true) (hT tsL) := by
  rw [← mq_eq]
  obtain ⟨n, rfl⟩ : ∃ n : Nat, v = (n : Int) := ⟨v.toNat, by omega⟩
  refine parts_ok (f := rf) (c := 64) (by decide) (ps := List.range 16) (fun k hk => ?_) (n := n) (List.mem_range.mpr (by omega))
  have hk := List.mem_range.mp hk
  match k, hk with
  | 0, _ => exact c0
  | 1, _ => exact c1
  | 2, _ => exact c2
  | 3, _ => exact c3
  | 4, _ => exact c4
  | 5, _ => exact c5
  | 6, _ => exact c6
  | 7, _ => exact c7
  | 8, _ => exact c8
  | 9, _ => exact c9
  | 10, _ => exact c10
  | 11, _ => exact c11
  | 12, _ => exact c12
  | 13, _ => exact c13
  | 14, _ => exact c14
  | 15, _ => exact c15
  | _ + 16, hk => exact absurd hk (by omega)
end K45
set_option Elab.async false
set_option linter.all false
set_option maxRecDepth 100000
set_option pp.maxSteps 120
set_option pp.deepTerms false
namespace K45
open PySem PySem.Spec PyProof.Rows L2 Mv
set_option maxHeartbeats 0
def I1 (ns : List Int) (sl : Sl) : Prop := ∃ s1 s2 s3, sl = [.val (.rol (ns.map VV.int)), s1, s2, s3]
def I2 (ns : List Int) (i : Int) (sl : Sl) : Prop := ∃ s1 s3, sl = [.val (.rol (ns.map VV.int)), s1, .val (.int i), s3]
abbrev ifB : MS := ifS (notT (blM (gcM (callF m_right (consA (opM addV (varM 2) (varM 3)) (nilA)))))) (retV (cM (.bl false))) (skipM)
abbrev inB : MS := forM (rangeI (consA (cM (.int 17)) (nilA))) (nameG 3) (ifS (notT (blM (gcM (callF m_right (consA (opM addV (varM 2) (varM 3)) (nilA)))))) (retV (cM (.bl false))) (skipM))
abbrev ouB : MS := seqM (setM 2 (gcM (callF m_tossed (consA (callF m_cup (consA (varM 0) (consA (varM 1) (nilA)))) (consA (cM (.int 1000)) (nilA)))))) (forM (rangeI (consA (cM (.int 17)) (nilA))) (nameG 3) (ifS (notT (blM (gcM (callF m_right (consA (opM addV (varM 2) (varM 3)) (nilA)))))) (retV (cM (.bl false))) (skipM)))
abbrev reB : MS := retV (opM (eqV false) (lstM (consA (callF m_most_parts (consA (cM (.int 0)) (nilA))) (consA (callF m_most_parts (consA (cM (.int 20)) (nilA))) (consA (callF m_level_of (consA (opM subV (opM powV (cM (.int 10)) (cM (.int 9))) (cM (.int 1))) (nilA))) (nilA))))) (lstM (consA (cM (.int 1)) (consA (cM (.int 41)) (consA (cM (.int 30)) (nilA))))))
theorem if_ok {ns : List Int} {i j : Int} (i0 : 0 ≤ i) (i1 : i < 1000) (j0 : 0 ≤ j) (j1 : j < 17) (s1 : Slot) : ifB [.val (.rol (ns.map VV.int)), s1, .val (.int i), .val (.int j)] (hT tsL) = .nx [.val (.rol (ns.map VV.int)), s1, .val (.int i), .val (.int j)] (hT tsL) :=
  if_right (n := i + j) rfl (right_ok (by omega) (by omega))
theorem in_ok {ns : List Int} {i : Int} (i0 : 0 ≤ i) (i1 : i < 1000) {sl : Sl} (k : I2 ns i sl) : ∃ sl1, inB sl (hT tsL) = .nx sl1 (hT tsL) ∧ I2 ns i sl1 := by
  obtain ⟨sl1, e, k1⟩ := forGo_inv (mg := nameG 3) (b := ifB) (h := hT tsL) (I := I2 ns i) (items := iota 0 17) k fun v hv sl ⟨s1, s3, e⟩ => by
    obtain ⟨j, rfl, j0, j1⟩ := iota_mem hv
    subst e
    exact ⟨[(3, .int j)], rfl, _, if_ok i0 i1 j0 (by omega) s1, s1, _, rfl⟩
  exact ⟨sl1, forM_at (iota_at rfl (by decide) (by decide)) e, k1⟩
theorem ou_ok {ns : List Int} {s : Int} (s0 : 0 ≤ s) (s1 : s ≤ 64) {sl : Sl} (k : I1 ns sl) : ∃ sl1, ouB (sl.set 1 (.val (.int s))) (hT tsL) = .nx sl1 (hT tsL) ∧ I1 ns sl1 := by
  obtain ⟨a, b, c, rfl⟩ := k
  obtain ⟨i, e, i0, i1⟩ := shift_ok (ns := ns) (s := s) (sv := view [.val (.rol (ns.map VV.int)), .val (.int s), b, c]) (i0 := 0) (i1 := 1) rfl rfl s0 s1
  obtain ⟨sl1, e2, x, y, e3⟩ := in_ok (ns := ns) i0 i1 (sl := [.val (.rol (ns.map VV.int)), .val (.int s), .val (.int i), c]) ⟨.val (.int s), c, rfl⟩
  exact ⟨sl1, (seqM_nx (set_at e)).trans e2, x, .val (.int i), y, e3⟩
theorem rest_ok (v0 s1 s2 s3 : Slot) : ∃ h, reB [v0, s1, s2, s3] (hT tsL) = .rt (.bl true) h := isTrue_ok (by kernel_rfl)
theorem law_true : ∀ ns : List Int, ns.length ≤ 63 → ∃ h, m_law [.rol (ns.map VV.int)] (hT tsL) = .ok (.bl true) h := by
  intro ns _
  obtain ⟨t, ht, er⟩ := rng_ok (ns := ns) (sv := view [.val (.rol (ns.map VV.int)), .no, .no, .no]) (h := hT tsL) (c := 2) rfl (by decide) (by decide)
  obtain ⟨sl1, e, a, b, c, rfl⟩ := forGo_inv (mg := nameG 1) (b := ouB) (h := hT tsL) (I := I1 ns) (items := iota 0 t) (sl := [.val (.rol (ns.map VV.int)), .no, .no, .no]) ⟨.no, .no, .no, rfl⟩ fun v hv sl k => by
    obtain ⟨s, rfl, s0, s1⟩ := iota_mem hv
    obtain ⟨sl1, e1, k1⟩ := ou_ok s0 (by omega) k
    exact ⟨[(1, .int s)], rfl, sl1, e1, k1⟩
  obtain ⟨h, er2⟩ := rest_ok (.val (.rol (ns.map VV.int))) a b c
  exact ⟨h, fn_rt (sl := [.val (.rol (ns.map VV.int)), .no, .no, .no]) rfl rfl ((seqM_nx (forM_at er e)).trans er2)⟩
end K45
set_option Elab.async false
set_option linter.all false
set_option maxRecDepth 100000
set_option pp.maxSteps 120
set_option pp.deepTerms false
namespace K45
open PySem PySem.Spec PyProof.Rows L2 Mv
set_option maxHeartbeats 0
def top (i : Nat) : Stmt := PySem.Challenge.pw_crestjoin_k45_errors_of_pieces.main.body.getD i (.Pass ⟨0, 0, 0, 0⟩)
def clsBody (s : Stmt) : List Stmt := match s with
  | .ClassDef _ _ _ b _ _ _ _ _ _ _ => b
  | _ => []
def meth (i j : Nat) : Stmt := (clsBody (top i)).getD j (.Pass ⟨0, 0, 0, 0⟩)
def d_cup : He.DefD := ⟨("_law_cup", none), "_law_cup", "_law_cup", defArgs (top 50), defBody (top 50), defScope (top 50), [], []⟩
theorem s_cup : FnScope ["_law_script", "_law_spot", "_law_cell", "_law_great", "_law_seed"] ["_law_script", "_law_spot"] (defScope (top 50)) := ⟨rfl, rfl, rfl, by decide +kernel, rfl, by decide +kernel, by decide +kernel⟩
def d_tossed : He.DefD := ⟨("_law_tossed", none), "_law_tossed", "_law_tossed", defArgs (top 51), defBody (top 51), defScope (top 51), [], []⟩
theorem s_tossed : FnScope ["_law_cup_here", "_law_total", "_law_found", "_law_one", "_law_two"] ["_law_cup_here", "_law_total"] (defScope (top 51)) := ⟨rfl, rfl, rfl, by decide +kernel, rfl, by decide +kernel, by decide +kernel⟩
def d_is_letter : He.DefD := ⟨("is_letter", none), "is_letter", "is_letter", defArgs (top 8), defBody (top 8), defScope (top 8), [], []⟩
theorem s_is_letter : FnScope ["value"] ["value"] (defScope (top 8)) := ⟨rfl, rfl, rfl, by decide +kernel, rfl, by decide +kernel, by decide +kernel⟩
def d_is_lot : He.DefD := ⟨("is_lot", none), "is_lot", "is_lot", defArgs (top 9), defBody (top 9), defScope (top 9), [], []⟩
theorem s_is_lot : FnScope ["value", "letter", "one", "other"] ["value"] (defScope (top 9)) := ⟨rfl, rfl, rfl, by decide +kernel, rfl, by decide +kernel, by decide +kernel⟩
def d_require_lot : He.DefD := ⟨("require_lot", none), "require_lot", "require_lot", defArgs (top 11), defBody (top 11), defScope (top 11), [], []⟩
theorem s_require_lot : FnScope ["value"] ["value"] (defScope (top 11)) := ⟨rfl, rfl, rfl, by decide +kernel, rfl, by decide +kernel, by decide +kernel⟩
def d_is_whole : He.DefD := ⟨("is_whole", none), "is_whole", "is_whole", defArgs (top 14), defBody (top 14), defScope (top 14), [], []⟩
theorem s_is_whole : FnScope ["value"] ["value"] (defScope (top 14)) := ⟨rfl, rfl, rfl, by decide +kernel, rfl, by decide +kernel, by decide +kernel⟩
def d_is_small : He.DefD := ⟨("is_small", none), "is_small", "is_small", defArgs (top 23), defBody (top 23), defScope (top 23), [], []⟩
theorem s_is_small : FnScope ["value"] ["value"] (defScope (top 23)) := ⟨rfl, rfl, rfl, by decide +kernel, rfl, by decide +kernel, by decide +kernel⟩
def d_is_row_in : He.DefD := ⟨("is_row_in", none), "is_row_in", "is_row_in", defArgs (top 24), defBody (top 24), defScope (top 24), [], []⟩
theorem s_is_row_in : FnScope ["lot", "value", "number"] ["lot", "value"] (defScope (top 24)) := ⟨rfl, rfl, rfl, by decide +kernel, rfl, by decide +kernel, by decide +kernel⟩
def d_are_rows : He.DefD := ⟨("are_rows", none), "are_rows", "are_rows", defArgs (top 25), defBody (top 25), defScope (top 25), [], []⟩
theorem s_are_rows : FnScope ["lot", "value", "row"] ["lot", "value"] (defScope (top 25)) := ⟨rfl, rfl, rfl, by decide +kernel, rfl, by decide +kernel, by decide +kernel⟩
def d_lot_told : He.DefD := ⟨("lot_told", none), "lot_told", "lot_told", defArgs (top 27), defBody (top 27), defScope (top 27), [], []⟩
theorem s_lot_told : FnScope ["lot", "letter"] ["lot"] (defScope (top 27)) := ⟨rfl, rfl, rfl, by decide +kernel, rfl, by decide +kernel, by decide +kernel⟩
def d_Table_keep : He.DefD := ⟨("Table", some "keep"), "keep", "Table.keep", defArgs (meth 26 2), defBody (meth 26 2), defScope (meth 26 2), [], []⟩
theorem s_Table_keep : FnScope ["self", "lot", "rows", "row"] ["self", "lot", "rows"] (defScope (meth 26 2)) := ⟨rfl, rfl, rfl, by decide +kernel, rfl, by decide +kernel, by decide +kernel⟩
def d_Table_init : He.DefD := ⟨("Table", some "__init__"), "__init__", "Table.__init__", defArgs (meth 26 1), defBody (meth 26 1), defScope (meth 26 1), [], []⟩
theorem s_Table_init : FnScope ["self", "lot", "rows"] ["self", "lot", "rows"] (defScope (meth 26 1)) := ⟨rfl, rfl, rfl, by decide +kernel, rfl, by decide +kernel, by decide +kernel⟩
def d_lt_turned : He.DefD := ⟨("_law_lt_turned", none), "_law_lt_turned", "_law_lt_turned", defArgs (top 52), defBody (top 52), defScope (top 52), [], []⟩
theorem s_lt_turned : FnScope ["_law_items", "_law_turn"] ["_law_items", "_law_turn"] (defScope (top 52)) := ⟨rfl, rfl, rfl, by decide +kernel, rfl, by decide +kernel, by decide +kernel⟩
def d_Table_rows : He.DefD := ⟨("Table", some "rows"), "rows", "Table.rows", defArgs (meth 26 4), defBody (meth 26 4), defScope (meth 26 4), [], []⟩
theorem s_Table_rows : FnScope ["self"] ["self"] (defScope (meth 26 4)) := ⟨rfl, rfl, rfl, by decide +kernel, rfl, by decide +kernel, by decide +kernel⟩
def d_is_table : He.DefD := ⟨("is_table", none), "is_table", "is_table", defArgs (top 29), defBody (top 29), defScope (top 29), [], []⟩
theorem s_is_table : FnScope ["value"] ["value"] (defScope (top 29)) := ⟨rfl, rfl, rfl, by decide +kernel, rfl, by decide +kernel, by decide +kernel⟩
def d_require_table : He.DefD := ⟨("require_table", none), "require_table", "require_table", defArgs (top 30), defBody (top 30), defScope (top 30), [], []⟩
theorem s_require_table : FnScope ["value"] ["value"] (defScope (top 30)) := ⟨rfl, rfl, rfl, by decide +kernel, rfl, by decide +kernel, by decide +kernel⟩
def d_require_cut : He.DefD := ⟨("require_cut", none), "require_cut", "require_cut", defArgs (top 39), defBody (top 39), defScope (top 39), [], []⟩
theorem s_require_cut : FnScope ["table", "low"] ["table", "low"] (defScope (top 39)) := ⟨rfl, rfl, rfl, by decide +kernel, rfl, by decide +kernel, by decide +kernel⟩
def d_within_in : He.DefD := ⟨("within_in", none), "within_in", "within_in", defArgs (top 10), defBody (top 10), defScope (top 10), [], []⟩
theorem s_within_in : FnScope ["one", "other", "letter"] ["one", "other"] (defScope (top 10)) := ⟨rfl, rfl, rfl, by decide +kernel, rfl, by decide +kernel, by decide +kernel⟩
def d_need_within : He.DefD := ⟨("need_within", none), "need_within", "need_within", defArgs (top 40), defBody (top 40), defScope (top 40), [], []⟩
theorem s_need_within : FnScope ["table", "low"] ["table", "low"] (defScope (top 40)) := ⟨rfl, rfl, rfl, by decide +kernel, rfl, by decide +kernel, by decide +kernel⟩
def d_groups_in : He.DefD := ⟨("groups_in", none), "groups_in", "groups_in", defArgs (top 35), defBody (top 35), defScope (top 35), [], []⟩
theorem s_groups_in : FnScope ["table", "low", "places", "found", "row", "part", "letter", "place"] ["table", "low"] (defScope (top 35)) := ⟨rfl, rfl, rfl, by decide +kernel, rfl, by decide +kernel, by decide +kernel⟩
def d_groups_of : He.DefD := ⟨("groups_of", none), "groups_of", "groups_of", defArgs (top 44), defBody (top 44), defScope (top 44), [], []⟩
theorem s_groups_of : FnScope ["table", "low", "part", "rows"] ["table", "low"] (defScope (top 44)) := ⟨rfl, rfl, rfl, by decide +kernel, rfl, by decide +kernel, by decide +kernel⟩
def d_is_within : He.DefD := ⟨("is_within", none), "is_within", "is_within", defArgs (top 16), defBody (top 16), defScope (top 16), [], []⟩
theorem s_is_within : FnScope ["value", "least", "most"] ["value", "least", "most"] (defScope (top 16)) := ⟨rfl, rfl, rfl, by decide +kernel, rfl, by decide +kernel, by decide +kernel⟩
def d_require_within : He.DefD := ⟨("require_within", none), "require_within", "require_within", defArgs (top 19), defBody (top 19), defScope (top 19), [], []⟩
theorem s_require_within : FnScope ["value", "least", "most"] ["value", "least", "most"] (defScope (top 19)) := ⟨rfl, rfl, rfl, by decide +kernel, rfl, by decide +kernel, by decide +kernel⟩
def d_require_cut_and_power : He.DefD := ⟨("require_cut_and_power", none), "require_cut_and_power", "require_cut_and_power", defArgs (top 41), defBody (top 41), defScope (top 41), [], []⟩
theorem s_require_cut_and_power : FnScope ["table", "low", "k"] ["table", "low", "k"] (defScope (top 41)) := ⟨rfl, rfl, rfl, by decide +kernel, rfl, by decide +kernel, by decide +kernel⟩
def d_does_fit : He.DefD := ⟨("does_fit", none), "does_fit", "does_fit", defArgs (top 37), defBody (top 37), defScope (top 37), [], []⟩
theorem s_does_fit : FnScope ["piece", "low", "k", "j", "groups", "rows"] ["piece", "low", "k", "j"] (defScope (top 37)) := ⟨rfl, rfl, rfl, by decide +kernel, rfl, by decide +kernel, by decide +kernel⟩
def d_is_piece : He.DefD := ⟨("is_piece", none), "is_piece", "is_piece", defArgs (top 38), defBody (top 38), defScope (top 38), [], []⟩
theorem s_is_piece : FnScope ["table", "low", "k", "value"] ["table", "low", "k", "value"] (defScope (top 38)) := ⟨rfl, rfl, rfl, by decide +kernel, rfl, by decide +kernel, by decide +kernel⟩
def d_is_parted : He.DefD := ⟨("is_parted", none), "is_parted", "is_parted", defArgs (top 46), defBody (top 46), defScope (top 46), [], []⟩
theorem s_is_parted : FnScope ["table", "low", "k", "value", "rows", "one", "j", "piece", "row"] ["table", "low", "k", "value"] (defScope (top 46)) := ⟨rfl, rfl, rfl, by decide +kernel, rfl, by decide +kernel, by decide +kernel⟩
def lt_lm_right_13_1 : LamT := (lamAt (defBody (top 54)) "_law_right" 13 1).get (by kernel_rfl)
theorem s_lm_right_13_1 : FnScope ["_law_one", "_law_two", "_law_three"] ["_law_one", "_law_two", "_law_three"] lt_lm_right_13_1.2.2.1 := ⟨rfl, rfl, rfl, by decide +kernel, rfl, by decide +kernel, by decide +kernel⟩
def d_power_in : He.DefD := ⟨("power_in", none), "power_in", "power_in", defArgs (top 17), defBody (top 17), defScope (top 17), [], []⟩
theorem s_power_in : FnScope ["number"] ["number"] (defScope (top 17)) := ⟨rfl, rfl, rfl, by decide +kernel, rfl, by decide +kernel, by decide +kernel⟩
def d_made_table : He.DefD := ⟨("made_table", none), "made_table", "made_table", defArgs (top 28), defBody (top 28), defScope (top 28), [], []⟩
theorem s_made_table : FnScope ["lot", "rows", "found"] ["lot", "rows"] (defScope (top 28)) := ⟨rfl, rfl, rfl, by decide +kernel, rfl, by decide +kernel, by decide +kernel⟩
def d_parted_in : He.DefD := ⟨("parted_in", none), "parted_in", "parted_in", defArgs (top 36), defBody (top 36), defScope (top 36), [], []⟩
theorem s_parted_in : FnScope ["table", "low", "k", "groups", "found", "j", "some", "most", "lot", "rows", "row"] ["table", "low", "k"] (defScope (top 36)) := ⟨rfl, rfl, rfl, by decide +kernel, rfl, by decide +kernel, by decide +kernel⟩
def d_parted : He.DefD := ⟨("parted", none), "parted", "parted", defArgs (top 45), defBody (top 45), defScope (top 45), [], []⟩
theorem s_parted : FnScope ["table", "low", "k"] ["table", "low", "k"] (defScope (top 45)) := ⟨rfl, rfl, rfl, by decide +kernel, rfl, by decide +kernel, by decide +kernel⟩
def d_is_integer : He.DefD := ⟨("is_integer", none), "is_integer", "is_integer", defArgs (top 15), defBody (top 15), defScope (top 15), [], []⟩
theorem s_is_integer : FnScope ["value"] ["value"] (defScope (top 15)) := ⟨rfl, rfl, rfl, by decide +kernel, rfl, by decide +kernel, by decide +kernel⟩
def d_require_from_one : He.DefD := ⟨("require_from_one", none), "require_from_one", "require_from_one", defArgs (top 18), defBody (top 18), defScope (top 18), [], []⟩
theorem s_require_from_one : FnScope ["value"] ["value"] (defScope (top 18)) := ⟨rfl, rfl, rfl, by decide +kernel, rfl, by decide +kernel, by decide +kernel⟩
def d_level_of : He.DefD := ⟨("level_of", none), "level_of", "level_of", defArgs (top 43), defBody (top 43), defScope (top 43), [], []⟩
theorem s_level_of : FnScope ["number"] ["number"] (defScope (top 43)) := ⟨rfl, rfl, rfl, by decide +kernel, rfl, by decide +kernel, by decide +kernel⟩
def d_most_parts : He.DefD := ⟨("most_parts", none), "most_parts", "most_parts", defArgs (top 47), defBody (top 47), defScope (top 47), [], []⟩
theorem s_most_parts : FnScope ["k"] ["k"] (defScope (top 47)) := ⟨rfl, rfl, rfl, by decide +kernel, rfl, by decide +kernel, by decide +kernel⟩
def d_require_pieces : He.DefD := ⟨("require_pieces", none), "require_pieces", "require_pieces", defArgs (top 42), defBody (top 42), defScope (top 42), [], []⟩
theorem s_require_pieces : FnScope ["value", "one"] ["value"] (defScope (top 42)) := ⟨rfl, rfl, rfl, by decide +kernel, rfl, by decide +kernel, by decide +kernel⟩
def d_put_together : He.DefD := ⟨("put_together", none), "put_together", "put_together", defArgs (top 48), defBody (top 48), defScope (top 48), [], []⟩
theorem s_put_together : FnScope ["pieces", "j", "piece", "row"] ["pieces"] (defScope (top 48)) := ⟨rfl, rfl, rfl, by decide +kernel, rfl, by decide +kernel, by decide +kernel⟩
def d_right : He.DefD := ⟨("_law_right", none), "_law_right", "_law_right", defArgs (top 54), defBody (top 54), defScope (top 54), [], []⟩
theorem s_right : FnScope ["_law_turn", "_law_table", "_law_none", "_law_low", "_law_far", "_law_k", "_law_number", "_law_some", "_law_pieces", "_law_told", "_law_due", "_law_call"] ["_law_turn"] (defScope (top 54)) := ⟨rfl, rfl, rfl, by decide +kernel, rfl, by decide +kernel, by decide +kernel⟩
def d_law : He.DefD := ⟨("law", none), "law", "law", defArgs (top 55), defBody (top 55), defScope (top 55), [], []⟩
theorem s_law : FnScope ["_law_script", "_law_spot", "_law_shift", "_law_turn"] ["_law_script"] (defScope (top 55)) := ⟨rfl, rfl, rfl, by decide +kernel, rfl, by decide +kernel, by decide +kernel⟩
def d_met : He.DefD := ⟨("_law_met", none), "_law_met", "_law_met", defArgs (top 53), defBody (top 53), defScope (top 53), [], []⟩
theorem s_met : FnScope ["_law_call", "error"] ["_law_call"] (defScope (top 53)) := ⟨rfl, rfl, rfl, by decide +kernel, rfl, by decide +kernel, by decide +kernel⟩
def gx (K : PySem.W.Frag) : Gx := ⟨fun n => match n with | 0 => He.ga K "Table" | 1 => He.ga K "InvalidLot" | 2 => He.ga K "InvalidTable" | 3 => He.ga K "InvalidOperation" | 4 => He.ga K "InvalidNumber" | 5 => (He.cT K ("_law_right", none)).2 | 6 => He.ga K "_law_right" | 7 => He.ga K "parted" | _ => 0, fun n => match n with | 4 => "given" | _ => ""⟩
def tf : List He.Defn := [("_law_right", none)]
def csK (K : PySem.W.Frag) : List (Addr × Addr) := tf.map (He.cT K)
def fileS : Str := "/claim/cut.py"
def q_InvalidNumber (n : Nat) : Pos := [⟨13, 8, 13, 13⟩, ⟨13, 8, 13, 15⟩, ⟨13, 8, 13, 24⟩, ⟨13, 25, 13, 30⟩, ⟨13, 8, 13, 31⟩, ⟨13, 8, 13, 31⟩, ⟨14, 8, 14, 12⟩, ⟨14, 8, 14, 18⟩, ⟨14, 21, 14, 26⟩, ⟨14, 8, 14, 26⟩].getD n ⟨0, 0, 0, 0⟩
theorem c_InvalidNumber : ∃ pl, CallsAs "given" q_InvalidNumber pl := ⟨_, fun _ => rfl⟩
theorem fo_InvalidNumber : FldOk "given" := ⟨by decide +kernel, by decide +kernel, by decide +kernel, by decide +kernel, by decide +kernel⟩
theorem b_InvalidNumber : BindsAs "given" q_InvalidNumber := fun _ _ _ _ _ _ _ _ _ _ _ => by first | rfl | with_unfolding_all rfl
def fa : List He.Fa := [.free "len", .free "min", .free "max", .free "range", .free "int", .free "abs", .glo "_law_cup", .glo "_law_tossed", .free "tuple", .glo "Table", .free "isinstance", .free "bool", .int "LETTERS" 6, .glo "is_letter", .free "all", .free "zip", .glo "is_lot", .glo "InvalidLot", .exc "InvalidLot", .glo "require_lot", .int "MOST_ROWS" 1000, .glo "is_whole", .int "BOUND" 1000000000, .glo "is_small", .glo "is_row_in", .glo "are_rows", .glo "InvalidTable", .exc "InvalidTable", .free "sorted", .free "str", .glo "lot_told", .glo "_law_lt_turned", .glo "is_table", .glo "require_table", .glo "require_cut", .glo "within_in", .glo "InvalidOperation", .exc "InvalidOperation", .glo "need_within", .glo "groups_in", .glo "groups_of", .glo "_law_met", .int "MOST_POWER" 20, .glo "is_within", .glo "InvalidNumber", .free "super", .glo "require_within", .glo "require_cut_and_power", .int "PAIR" 2, .glo "does_fit", .glo "is_piece", .free "list", .glo "is_parted", .glo "parted", .glo "power_in", .glo "made_table", .glo "parted_in", .free "repr", .int "BILLION" 1000000000, .glo "is_integer", .glo "require_from_one", .glo "level_of", .glo "most_parts", .int "MOST_PIECES" 50, .glo "require_pieces", .glo "put_together", .glo "_law_right", .glo "law"]
def exs : List (PySem.W.Frag → Bool) := [fun K => ([0] : List Nat).all fun c => clsSB K ((gx K).adr c), fun K => ([0] : List Nat).all fun c => noTyB K ((gx K).adr c), fun K => ([(0, 2)] : List (Nat × Nat)).all fun p => clsSB K ((gx K).adr p.1) && slotB K ((gx K).adr p.1) "own_there" p.2, fun K => ([(0, 3)] : List (Nat × Nat)).all fun p => clsSB K ((gx K).adr p.1) && slotB K ((gx K).adr p.1) "own_told" p.2, fun K => ([(0, 1)] : List (Nat × Nat)).all fun p => clsSB K ((gx K).adr p.1) && slotB K ((gx K).adr p.1) "own_rows" p.2, fun K => ([(0, 0)] : List (Nat × Nat)).all fun p => clsSB K ((gx K).adr p.1) && slotB K ((gx K).adr p.1) "own_lot" p.2, fun K => methB K (He.ga K "Table") "keep" (He.fAd K ("Table", some "keep")), fun K => clsSB K (He.ga K "Table"), fun K => mkB K (He.ga K "Table") (He.fAd K ("Table", some "__init__")), fun K => propB K (He.ga K "Table") "rows" (pgA K ("Table", "rows")), fun K => kitsB K (gx K).adr [(0, 0, true)], fun K => numB fileS K (He.ga K "InvalidNumber") "given" q_InvalidNumber, fun K => xfB K (He.ga K "InvalidNumber") && decide (PySem.W.findIn K (.ref (He.ga K "InvalidNumber")) "given" = some none), fun K => exmBs K (gx K).adr exmL, fun K => decide (((csK K).map (·.2)).Nodup)]
abbrev ex : PySem.W.Frag → Bool := exL exs
def fn : List He.DefD := [d_cup, d_tossed, d_is_letter, d_is_lot, d_require_lot, d_is_whole, d_is_small, d_is_row_in, d_are_rows, d_lot_told, d_Table_keep, d_Table_init, d_lt_turned, d_is_table, d_require_table, d_require_cut, d_within_in, d_need_within, d_groups_in, d_groups_of, d_is_within, d_require_within, d_require_cut_and_power, d_does_fit, d_is_piece, d_is_parted, d_power_in, d_made_table, d_parted_in, d_parted, d_is_integer, d_require_from_one, d_level_of, d_most_parts, d_require_pieces, d_put_together, d_right, d_law, d_met]
def p_Table_rows : PrD := ⟨("Table", "rows"), d_Table_rows⟩
def pn : List PrD := [p_Table_rows]
abbrev HyL := HyP fa fn ex pn
section
variable {P : Program} {w : World} {K : PySem.W.Frag} {mg : Str → Option Value}
theorem n_InvalidNumber (y : HyL K mg) (pg : PgOk P fileS) : NumX P K (He.ga K "InvalidNumber") "given" q_InvalidNumber := numB_ok pg (exL_at y.x 11 rfl)
theorem x_InvalidNumber (y : HyL K mg) : XfC K (He.ga K "InvalidNumber") ∧ PySem.W.findIn K (.ref (He.ga K "InvalidNumber")) "given" = some none := by
  obtain ⟨a, b⟩ := Bool.and_eq_true_iff.mp (exL_at y.x 12 rfl)
  exact ⟨xfB_ok a, of_decide_eq_true b⟩
theorem u_met {k : Nat} {A : Around} (r : Room k A) : A.units + 100 < cLine := by have := r.un; omega
theorem h_met (y : HyL K mg) {base : Heap} {A : Around} {stack : List Env} {cdg : Value} {s : Shared} {H : Hp} (hgd : A.guards = some []) (hu : A.units + 100 < cLine) : HdR (cxOf C8.CX0 P w K mg base ["_law_call", "error"] "_law_met" (defScope (top 53)) (He.ga K "_law_met") cdg A stack s H C8.E0).nox (hsOf (defBody (top 53))) (hlOf K (gx K) hs_met) :=
  .plain ⟨rfl, by decide, .inl (y.glo 26)⟩ (fun _ _ _ _ _ _ _ => hd_txt) (.plain ⟨rfl, by decide, .inl (y.glo 17)⟩ (fun _ _ _ _ _ _ _ => hd_txt) (.plain ⟨rfl, by decide, .inl (y.glo 36)⟩ (fun _ _ _ _ _ _ _ => hd_txt) (.named (i := 1) ⟨rfl, by decide, .inl (y.glo 44)⟩ rfl rfl (fun _ _ _ _ _ hz hf => hd_rep hgd (show A.units + 3 + 64 < cLine by omega) (x_InvalidNumber y).1 (x_InvalidNumber y).2 hz hf rfl rfl (y.free 57)) (.nil))))
theorem w_cup (y : HyL K mg) (pg : PgOk P fileS)  : OkF P w K mg (gx K) 3 (He.ga K "_law_cup") ["_law_script", "_law_spot"] m_cup := by
  obtain ⟨fd, F⟩ := y.c.def_ 0 (d := d_cup) rfl
  refine ⟨fd, fun base => fn_ok F s_cup rfl rfl fun cdv A outer s H E hr => ?_, F.bindsN fun _ _ _ _ _ _ us hl => match us, hl with | [_, _], _ => rfl, F.kp, F.bindsA fun _ _ _ _ _ _ us hl => match us, hl with | [_, _], _ => rfl⟩
  have tk : Takes (cxOf (L2.CX P w) P w K mg base ["_law_script", "_law_spot", "_law_cell", "_law_great", "_law_seed"] "_law_cup" (defScope (top 50)) (He.ga K "_law_cup") cdv A outer s H E) (WK E) := takes_of rfl rfl rfl rfl
  have nd := s_cup.nd
  exact rss_cons (rs_set 2 nd (re_if (rt_cmp op_lt cmpS (re_var 1) (re_callB call_lenA lenAS rfl (y.free 0) boot_len (ra_cons (re_var 0) (ra_nil)))) (re_callTy call_int1 intFS rfl (y.free 4) boot_int (ra_cons (re_ixA hr (re_var 0) (re_var 1)) (ra_nil))) (re_op op_addA addS (re_op op_mulB mulAS (re_int) (re_var 1)) (re_int)))) (rss_cons (rs_set 3 nd (re_op op_mod modS (re_callTy call_int1 intFS rfl (y.free 4) boot_int (ra_cons (re_callB call_abs absS rfl (y.free 5) boot_abs (ra_cons (re_var 2) (ra_nil))) (ra_nil))) (re_op op_powA powS (re_op op_powA powS (re_int) (re_int)) (re_int)))) (rss_cons (rs_set 4 nd (re_callTy call_int1 intFS rfl (y.free 4) boot_int (ra_cons (re_op op_addA addS (re_op op_addA addS (re_op op_addA addS (re_op op_mulB mulAS (re_op op_mod modS (re_var 3) (re_int)) (re_int)) (re_op op_mulB mulAS (re_int) (re_var 1))) (re_op op_mulB mulAS (re_int) (re_callTy call_int1 intFS rfl (y.free 4) boot_int (ra_cons (re_cmp op_lt cmpS (re_var 2) (re_int)) (ra_nil))))) (re_int)) (ra_nil)))) (rss_one (rs_retV (re_new (ra_cons (re_callB (call_max2 rfl) int2S rfl (y.free 2) boot_max (ra_cons (re_int) (ra_cons (re_op op_subA subS (re_var 3) (re_op op_powA powS (re_int) (re_int))) (ra_nil)))) (ra_cons (re_op op_mod modS (re_var 4) (re_int)) (ra_cons (re_int) (ra_nil)))))))))

theorem w_tossed (y : HyL K mg) (pg : PgOk P fileS)  : OkF P w K mg (gx K) 3 (He.ga K "_law_tossed") ["_law_cup_here", "_law_total"] m_tossed := by
  obtain ⟨fd, F⟩ := y.c.def_ 1 (d := d_tossed) rfl
  refine ⟨fd, fun base => fn_ok F s_tossed rfl rfl fun cdv A outer s H E hr => ?_, F.bindsN fun _ _ _ _ _ _ us hl => match us, hl with | [_, _], _ => rfl, F.kp, F.bindsA fun _ _ _ _ _ _ us hl => match us, hl with | [_, _], _ => rfl⟩
  have tk : Takes (cxOf (L2.CX P w) P w K mg base ["_law_cup_here", "_law_total", "_law_found", "_law_one", "_law_two"] "_law_tossed" (defScope (top 51)) (He.ga K "_law_tossed") cdv A outer s H E) (WK E) := takes_of rfl rfl rfl rfl
  have nd := s_tossed.nd
  exact rss_cons (rs_if (rt_cmp op_gt cmpS (re_ixA hr (re_var 0) (re_int)) (re_int)) (rss_cons (rs_set 2 nd (re_op op_mod modS (re_callTy call_int1 intFS rfl (y.free 4) boot_int (ra_cons (re_ixA hr (re_var 0) (re_int)) (ra_nil))) (re_var 1))) (rss_cons (rs_setA hr (re_op op_fdivA fdivS (re_ixA hr (re_var 0) (re_int)) (re_var 1)) (re_var 0) (re_int)) (rss_one (rs_retV (re_var 2))))) (rss_nil)) (rss_cons (rs_setA hr (re_op op_addA addS (re_ixA hr (re_var 0) (re_int)) (re_int)) (re_var 0) (re_int)) (rss_cons (rs_set 3 nd (re_op op_mod modS (re_callTy call_int1 intFS rfl (y.free 4) boot_int (ra_cons (re_op op_addA addS (re_ixA hr (re_var 0) (re_int)) (re_op op_mulB mulAS (re_int) (re_ixA hr (re_var 0) (re_int)))) (ra_nil))) (re_int))) (rss_cons (rs_set 4 nd (re_op op_addA addS (re_op op_addA addS (re_op op_mulB mulAS (re_op op_mod modS (re_callTy call_int1 intFS rfl (y.free 4) boot_int (ra_cons (re_op op_addA addS (re_op op_mulB mulAS (re_var 3) (re_var 3)) (re_int)) (ra_nil))) (re_int)) (re_int)) (re_var 3)) (re_op op_mulB mulAS (re_int) (re_ixA hr (re_var 0) (re_int))))) (rss_one (rs_retV (re_op op_mod modS (re_callTy call_int1 intFS rfl (y.free 4) boot_int (ra_cons (re_op op_fdivA fdivS (re_var 4) (re_int)) (ra_nil))) (re_var 1)))))))

theorem w_is_letter (y : HyL K mg) (pg : PgOk P fileS)  : OkF P w K mg (gx K) 3 (He.ga K "is_letter") ["value"] m_is_letter := by
  obtain ⟨fd, F⟩ := y.c.def_ 2 (d := d_is_letter) rfl
  refine ⟨fd, fun base => fn_ok F s_is_letter rfl rfl fun cdv A outer s H E hr => ?_, F.bindsN fun _ _ _ _ _ _ us hl => match us, hl with | [_], _ => rfl, F.kp, F.bindsA fun _ _ _ _ _ _ us hl => match us, hl with | [_], _ => rfl⟩
  have tk : Takes (cxOf (L2.CX P w) P w K mg base ["value"] "is_letter" (defScope (top 8)) (He.ga K "is_letter") cdv A outer s H E) (WK E) := takes_of rfl rfl rfl rfl
  have nd := s_is_letter.nd
  exact rss_one (rs_retV (re_and (re_callB call_isiY (isiIS (clT_ok (exL_at y.x 0 rfl)) (exL_at y.x 1 rfl)) rfl (y.free 10) boot_isinstance (ra_cons (re_var 0) (ra_cons (re_ty .int rfl (y.free 4) boot_int) (ra_nil)))) (re_and (re_not (re_callB call_isiY (isiIS (clT_ok (exL_at y.x 0 rfl)) (exL_at y.x 1 rfl)) rfl (y.free 10) boot_isinstance (ra_cons (re_var 0) (ra_cons (re_ty .bool rfl (y.free 11) boot_bool) (ra_nil))))) (re_one (re_chain op_le cmpS op_lt cmpS rI0_mono (re_int) (re_var 0) (re_gint rfl (y.int 12)))))))

theorem w_is_lot (y : HyL K mg) (pg : PgOk P fileS) (o_is_letter : OkF P w K mg (gx K) 3 (He.ga K "is_letter") ["value"] m_is_letter) : OkF P w K mg (gx K) 4 (He.ga K "is_lot") ["value"] m_is_lot := by
  obtain ⟨fd, F⟩ := y.c.def_ 3 (d := d_is_lot) rfl
  refine ⟨fd, fun base => fn_ok F s_is_lot rfl rfl fun cdv A outer s H E hr => ?_, F.bindsN fun _ _ _ _ _ _ us hl => match us, hl with | [_], _ => rfl, F.kp, F.bindsA fun _ _ _ _ _ _ us hl => match us, hl with | [_], _ => rfl⟩
  have tk : Takes (cxOf (L2.CX P w) P w K mg base ["value", "letter", "one", "other"] "is_lot" (defScope (top 9)) (He.ga K "is_lot") cdv A outer s H E) (WK E) := takes_of rfl rfl rfl rfl
  have nd := s_is_lot.nd
  exact rss_cons (rs_if (rt_w (rw_or (rt_not (rt_val (re_callB call_isiY (isiIS (clT_ok (exL_at y.x 0 rfl)) (exL_at y.x 1 rfl)) rfl (y.free 10) boot_isinstance (ra_cons (re_var 0) (ra_cons (re_ty .tuple rfl (y.free 8) boot_tuple) (ra_nil)))))) (rw_or1 (rt_not (rt_val (re_callB (cr_all rfl) allS rfl (y.free 14) boot_all (ra_cons (re_lc (own := [("letter", 1)]) rfl nd (ri_any (re_var 0)) (blkOk_by (by kernel_rfl)) (inis_name 1) (by decide) (fun _ _ _ _ _ => rg_name 1 nd) (fun _ _ _ _ _ => rts_nil) (fun _ _ _ _ _ => re_callO o_is_letter hr (y.glo 13) takes0 (ra_cons (re_var 1) (ra_nil)))) (ra_nil)))))))) (rss_one (rs_retV (re_bl))) (rss_nil)) (rss_one (rs_retV (re_callB (cr_all rfl) allS rfl (y.free 14) boot_all (ra_cons (re_lc (own := [("one", 2), ("other", 3)]) rfl nd (ri_zip rfl (y.free 15) (ra_cons (re_var 0) (ra_cons (re_slice (re_var 0) (ro_some (re_int)) (ro_none)) (ra_nil)))) (blkOk_by (by kernel_rfl)) (inis_tup (iniss_cons (inis_name 2) (iniss_cons (inis_name 3) (iniss_nil)))) (by decide) (fun _ _ _ _ _ => rg_tup (n := 2) rfl (rgs_cons (rg_name 2 nd) (rgs_cons (rg_name 3 nd) (rgs_nil))) (consG_len (consG_len (nilG_len)))) (fun _ _ _ _ _ => rts_nil) (fun _ _ _ _ _ => re_cmp op_lt cmpS (re_var 2) (re_var 3))) (ra_nil)))))

theorem w_require_lot (y : HyL K mg) (pg : PgOk P fileS) (o_is_lot : OkF P w K mg (gx K) 4 (He.ga K "is_lot") ["value"] m_is_lot) : OkF P w K mg (gx K) 5 (He.ga K "require_lot") ["value"] m_require_lot := by
  obtain ⟨fd, F⟩ := y.c.def_ 4 (d := d_require_lot) rfl
  refine ⟨fd, fun base => fn_ok F s_require_lot rfl rfl fun cdv A outer s H E hr => ?_, F.bindsN fun _ _ _ _ _ _ us hl => match us, hl with | [_], _ => rfl, F.kp, F.bindsA fun _ _ _ _ _ _ us hl => match us, hl with | [_], _ => rfl⟩
  have tk : Takes (cxOf (L2.CX P w) P w K mg base ["value"] "require_lot" (defScope (top 11)) (He.ga K "require_lot") cdv A outer s H E) (WK E) := takes_of rfl rfl rfl rfl
  have nd := s_require_lot.nd
  exact rss_one (rs_if (rt_not (rt_val (re_callO o_is_lot hr (y.glo 16) tk (ra_cons (re_var 0) (ra_nil))))) (rss_one (rs_raise (c := 1) rfl tk (y.err 18) (y.glo 17))) (rss_nil))

theorem w_is_whole (y : HyL K mg) (pg : PgOk P fileS)  : OkF P w K mg (gx K) 3 (He.ga K "is_whole") ["value"] m_is_whole := by
  obtain ⟨fd, F⟩ := y.c.def_ 5 (d := d_is_whole) rfl
  refine ⟨fd, fun base => fn_ok F s_is_whole rfl rfl fun cdv A outer s H E hr => ?_, F.bindsN fun _ _ _ _ _ _ us hl => match us, hl with | [_], _ => rfl, F.kp, F.bindsA fun _ _ _ _ _ _ us hl => match us, hl with | [_], _ => rfl⟩
  have tk : Takes (cxOf (L2.CX P w) P w K mg base ["value"] "is_whole" (defScope (top 14)) (He.ga K "is_whole") cdv A outer s H E) (WK E) := takes_of rfl rfl rfl rfl
  have nd := s_is_whole.nd
  exact rss_one (rs_retV (re_and (re_callB call_isiY (isiIS (clT_ok (exL_at y.x 0 rfl)) (exL_at y.x 1 rfl)) rfl (y.free 10) boot_isinstance (ra_cons (re_var 0) (ra_cons (re_ty .int rfl (y.free 4) boot_int) (ra_nil)))) (re_one (re_not (re_callB call_isiY (isiIS (clT_ok (exL_at y.x 0 rfl)) (exL_at y.x 1 rfl)) rfl (y.free 10) boot_isinstance (ra_cons (re_var 0) (ra_cons (re_ty .bool rfl (y.free 11) boot_bool) (ra_nil))))))))

theorem w_is_small (y : HyL K mg) (pg : PgOk P fileS) (o_is_whole : OkF P w K mg (gx K) 3 (He.ga K "is_whole") ["value"] m_is_whole) : OkF P w K mg (gx K) 4 (He.ga K "is_small") ["value"] m_is_small := by
  obtain ⟨fd, F⟩ := y.c.def_ 6 (d := d_is_small) rfl
  refine ⟨fd, fun base => fn_ok F s_is_small rfl rfl fun cdv A outer s H E hr => ?_, F.bindsN fun _ _ _ _ _ _ us hl => match us, hl with | [_], _ => rfl, F.kp, F.bindsA fun _ _ _ _ _ _ us hl => match us, hl with | [_], _ => rfl⟩
  have tk : Takes (cxOf (L2.CX P w) P w K mg base ["value"] "is_small" (defScope (top 23)) (He.ga K "is_small") cdv A outer s H E) (WK E) := takes_of rfl rfl rfl rfl
  have nd := s_is_small.nd
  exact rss_one (rs_retV (re_and (re_callO o_is_whole hr (y.glo 21) tk (ra_cons (re_var 0) (ra_nil))) (re_one (re_chain op_lt cmpS op_lt cmpS rI0_mono (re_neg (re_gint rfl (y.int 22))) (re_var 0) (re_gint rfl (y.int 22))))))

theorem w_is_row_in (y : HyL K mg) (pg : PgOk P fileS) (o_is_small : OkF P w K mg (gx K) 4 (He.ga K "is_small") ["value"] m_is_small) : OkF P w K mg (gx K) 5 (He.ga K "is_row_in") ["lot", "value"] m_is_row_in := by
  obtain ⟨fd, F⟩ := y.c.def_ 7 (d := d_is_row_in) rfl
  refine ⟨fd, fun base => fn_ok F s_is_row_in rfl rfl fun cdv A outer s H E hr => ?_, F.bindsN fun _ _ _ _ _ _ us hl => match us, hl with | [_, _], _ => rfl, F.kp, F.bindsA fun _ _ _ _ _ _ us hl => match us, hl with | [_, _], _ => rfl⟩
  have tk : Takes (cxOf (L2.CX P w) P w K mg base ["lot", "value", "number"] "is_row_in" (defScope (top 24)) (He.ga K "is_row_in") cdv A outer s H E) (WK E) := takes_of rfl rfl rfl rfl
  have nd := s_is_row_in.nd
  exact rss_one (rs_retV (re_and (re_callB call_isiY (isiIS (clT_ok (exL_at y.x 0 rfl)) (exL_at y.x 1 rfl)) rfl (y.free 10) boot_isinstance (ra_cons (re_var 1) (ra_cons (re_ty .tuple rfl (y.free 8) boot_tuple) (ra_nil)))) (re_and (re_cmp (op_eqD (Room.u64 hr)) eqS (re_callB call_lenA lenAS rfl (y.free 0) boot_len (ra_cons (re_var 1) (ra_nil))) (re_callB call_lenA lenAS rfl (y.free 0) boot_len (ra_cons (re_var 0) (ra_nil)))) (re_one (re_callB (cr_all rfl) allS rfl (y.free 14) boot_all (ra_cons (re_lc (own := [("number", 2)]) rfl nd (ri_any (re_var 1)) (blkOk_by (by kernel_rfl)) (inis_name 2) (by decide) (fun _ _ _ _ _ => rg_name 2 nd) (fun _ _ _ _ _ => rts_nil) (fun _ _ _ _ _ => re_callO o_is_small hr (y.glo 23) takes0 (ra_cons (re_var 2) (ra_nil)))) (ra_nil)))))))

theorem w_are_rows (y : HyL K mg) (pg : PgOk P fileS) (o_is_row_in : OkF P w K mg (gx K) 5 (He.ga K "is_row_in") ["lot", "value"] m_is_row_in) : OkF P w K mg (gx K) 6 (He.ga K "are_rows") ["lot", "value"] m_are_rows := by
  obtain ⟨fd, F⟩ := y.c.def_ 8 (d := d_are_rows) rfl
  refine ⟨fd, fun base => fn_ok F s_are_rows rfl rfl fun cdv A outer s H E hr => ?_, F.bindsN fun _ _ _ _ _ _ us hl => match us, hl with | [_, _], _ => rfl, F.kp, F.bindsA fun _ _ _ _ _ _ us hl => match us, hl with | [_, _], _ => rfl⟩
  have tk : Takes (cxOf (L2.CX P w) P w K mg base ["lot", "value", "row"] "are_rows" (defScope (top 25)) (He.ga K "are_rows") cdv A outer s H E) (WK E) := takes_of rfl rfl rfl rfl
  have nd := s_are_rows.nd
  exact rss_one (rs_retV (re_and (re_callB call_isiY (isiIS (clT_ok (exL_at y.x 0 rfl)) (exL_at y.x 1 rfl)) rfl (y.free 10) boot_isinstance (ra_cons (re_var 1) (ra_cons (re_ty .tuple rfl (y.free 8) boot_tuple) (ra_nil)))) (re_and (re_cmp op_le cmpS (re_callB call_lenA lenAS rfl (y.free 0) boot_len (ra_cons (re_var 1) (ra_nil))) (re_gint rfl (y.int 20))) (re_one (re_callB (cr_all rfl) allS rfl (y.free 14) boot_all (ra_cons (re_lc (own := [("row", 2)]) rfl nd (ri_any (re_var 1)) (blkOk_by (by kernel_rfl)) (inis_name 2) (by decide) (fun _ _ _ _ _ => rg_name 2 nd) (fun _ _ _ _ _ => rts_nil) (fun _ _ _ _ _ => re_callO o_is_row_in hr (y.glo 24) takes0 (ra_cons (re_var 0) (ra_cons (re_var 2) (ra_nil))))) (ra_nil)))))))

theorem w_lot_told (y : HyL K mg) (pg : PgOk P fileS)  : OkF P w K mg (gx K) 3 (He.ga K "lot_told") ["lot"] m_lot_told := by
  obtain ⟨fd, F⟩ := y.c.def_ 9 (d := d_lot_told) rfl
  refine ⟨fd, fun base => fn_ok F s_lot_told rfl rfl fun cdv A outer s H E hr => ?_, F.bindsN fun _ _ _ _ _ _ us hl => match us, hl with | [_], _ => rfl, F.kp, F.bindsA fun _ _ _ _ _ _ us hl => match us, hl with | [_], _ => rfl⟩
  have tk : Takes (cxOf (L2.CX P w) P w K mg base ["lot", "letter"] "lot_told" (defScope (top 27)) (He.ga K "lot_told") cdv A outer s H E) (WK E) := takes_of rfl rfl rfl rfl
  have nd := s_lot_told.nd
  exact rss_one (rs_retV (re_if (rt_cmp (op_neD (Room.u64 hr)) neS (re_var 0) (re_tup (ra_nil))) (re_join (re_str) (re_lc (own := [("letter", 1)]) rfl nd (ri_any (re_var 0)) (blkOk_by (by kernel_rfl)) (inis_name 1) (by decide) (fun _ _ _ _ _ => rg_name 1 nd) (fun _ _ _ _ _ => rts_nil) (fun _ _ _ _ _ => re_callTy call_strA strS rfl (y.free 29) boot_str (ra_cons (re_var 1) (ra_nil))))) (re_str)))

theorem w_Table_keep (y : HyL K mg) (pg : PgOk P fileS) (o_lot_told : OkF P w K mg (gx K) 3 (He.ga K "lot_told") ["lot"] m_lot_told) : OkF P w K mg (gx K) 4 (He.fAd K ("Table", some "keep")) ["self", "lot", "rows"] m_Table_keep := by
  obtain ⟨fd, F⟩ := y.c.def_ 10 (d := d_Table_keep) rfl
  refine ⟨fd, fun base => fn_ok F s_Table_keep rfl rfl fun cdv A outer s H E hr => ?_, F.bindsN fun _ _ _ _ _ _ us hl => match us, hl with | [_, _, _], _ => rfl, F.kp, F.bindsA fun _ _ _ _ _ _ us hl => match us, hl with | [_, _, _], _ => rfl⟩
  have tk : Takes (cxOf (L2.CX P w) P w K mg base ["self", "lot", "rows", "row"] "Table.keep" (defScope (meth 26 2)) (He.fAd K ("Table", some "keep")) cdv A outer s H E) (WK E) := takes_of rfl rfl rfl rfl
  have nd := s_Table_keep.nd
  exact rss_cons (rs_attr (slT_ok (exL_at y.x 2 rfl)) (re_dcT (own := [("row", 3)]) hr rfl nd (ri_any (re_callB (cr_sortedA rfl (Room.u64 hr)) sortedAS rfl (y.free 28) boot_sorted (ra_cons (re_var 2) (ra_nil)))) (blkOk_by (by kernel_rfl)) (inis_name 3) (by decide) (fun _ _ _ _ _ => rg_name 3 nd) (fun _ _ _ _ _ => rts_nil) (fun _ _ _ _ _ => re_var 3) (fun _ _ _ _ _ => re_bl)) (re_var 0)) (rss_one (rs_attrs rfl (re_tup (ra_cons (re_var 1) (ra_cons (re_callTy (call_tupleA rfl) tupleAS rfl (y.free 8) boot_tuple (ra_cons (re_attr (slT_ok (exL_at y.x 2 rfl)) (re_var 0)) (ra_nil))) (ra_cons (re_callO o_lot_told hr (y.glo 30) tk (ra_cons (re_var 1) (ra_nil))) (ra_nil))))) (rtg_cons (slT_ok (exL_at y.x 5 rfl)) (re_var 0) (rtg_cons (slT_ok (exL_at y.x 4 rfl)) (re_var 0) (rtg_cons (slT_ok (exL_at y.x 3 rfl)) (re_var 0) (rtg_nil))))))

theorem w_Table_init (y : HyL K mg) (pg : PgOk P fileS) (o_require_lot : OkF P w K mg (gx K) 5 (He.ga K "require_lot") ["value"] m_require_lot) (o_are_rows : OkF P w K mg (gx K) 6 (He.ga K "are_rows") ["lot", "value"] m_are_rows) (o_Table_keep : OkF P w K mg (gx K) 4 (He.fAd K ("Table", some "keep")) ["self", "lot", "rows"] m_Table_keep) : OkF P w K mg (gx K) 7 (He.fAd K ("Table", some "__init__")) ["self", "lot", "rows"] m_Table_init := by
  obtain ⟨fd, F⟩ := y.c.def_ 11 (d := d_Table_init) rfl
  refine ⟨fd, fun base => fn_ok F s_Table_init rfl rfl fun cdv A outer s H E hr => ?_, F.bindsN fun _ _ _ _ _ _ us hl => match us, hl with | [_, _, _], _ => rfl, F.kp, F.bindsA fun _ _ _ _ _ _ us hl => match us, hl with | [_, _, _], _ => rfl⟩
  have tk : Takes (cxOf (L2.CX P w) P w K mg base ["self", "lot", "rows"] "Table.__init__" (defScope (meth 26 1)) (He.fAd K ("Table", some "__init__")) cdv A outer s H E) (WK E) := takes_of rfl rfl rfl rfl
  have nd := s_Table_init.nd
  exact rss_cons (rs_expr (re_callO o_require_lot hr (y.glo 19) tk (ra_cons (re_var 1) (ra_nil)))) (rss_cons (rs_if (rt_not (rt_val (re_callO o_are_rows hr (y.glo 25) tk (ra_cons (re_var 1) (ra_cons (re_var 2) (ra_nil)))))) (rss_one (rs_raise (c := 2) rfl tk (y.err 27) (y.glo 26))) (rss_nil)) (rss_one (rs_expr (re_meth (c := 0) o_Table_keep (methB_ok (exL_at y.x 6 rfl)) (clsSB_ok (exL_at y.x 7 rfl)).c hr tk (re_var 0) (ra_cons (re_var 1) (ra_cons (re_var 2) (ra_nil)))))))

theorem w_lt_turned (y : HyL K mg) (pg : PgOk P fileS)  : OkF P w K mg (gx K) 3 (He.ga K "_law_lt_turned") ["_law_items", "_law_turn"] m_lt_turned := by
  obtain ⟨fd, F⟩ := y.c.def_ 12 (d := d_lt_turned) rfl
  refine ⟨fd, fun base => fn_ok F s_lt_turned rfl rfl fun cdv A outer s H E hr => ?_, F.bindsN fun _ _ _ _ _ _ us hl => match us, hl with | [_, _], _ => rfl, F.kp, F.bindsA fun _ _ _ _ _ _ us hl => match us, hl with | [_, _], _ => rfl⟩
  have tk : Takes (cxOf (L2.CX P w) P w K mg base ["_law_items", "_law_turn"] "_law_lt_turned" (defScope (top 52)) (He.ga K "_law_lt_turned") cdv A outer s H E) (WK E) := takes_of rfl rfl rfl rfl
  have nd := s_lt_turned.nd
  exact rss_one (rs_retV (re_ixA hr (re_var 0) (re_op op_mod modS (re_callTy call_int1 intFS rfl (y.free 4) boot_int (ra_cons (re_var 1) (ra_nil))) (re_callB call_lenA lenAS rfl (y.free 0) boot_len (ra_cons (re_var 0) (ra_nil))))))

theorem w_Table_rows (y : HyL K mg) (pg : PgOk P fileS)  : OkF P w K mg (gx K) 3 (pgA K ("Table", "rows")) ["self"] m_Table_rows := by
  obtain ⟨fd, F⟩ := y.p.def_ 0 (p := p_Table_rows) rfl
  refine ⟨fd, fun base => fn_ok F s_Table_rows rfl rfl fun cdv A outer s H E hr => ?_, F.bindsN fun _ _ _ _ _ _ us hl => match us, hl with | [_], _ => rfl, F.kp, F.bindsA fun _ _ _ _ _ _ us hl => match us, hl with | [_], _ => rfl⟩
  have tk : Takes (cxOf (L2.CX P w) P w K mg base ["self"] "Table.rows" (defScope (meth 26 4)) (pgA K ("Table", "rows")) cdv A outer s H E) (WK E) := takes_of rfl rfl rfl rfl
  have nd := s_Table_rows.nd
  exact rss_one (rs_retV (re_attr (slT_ok (exL_at y.x 4 rfl)) (re_var 0)))

theorem w_is_table (y : HyL K mg) (pg : PgOk P fileS)  : OkF P w K mg (gx K) 3 (He.ga K "is_table") ["value"] m_is_table := by
  obtain ⟨fd, F⟩ := y.c.def_ 13 (d := d_is_table) rfl
  refine ⟨fd, fun base => fn_ok F s_is_table rfl rfl fun cdv A outer s H E hr => ?_, F.bindsN fun _ _ _ _ _ _ us hl => match us, hl with | [_], _ => rfl, F.kp, F.bindsA fun _ _ _ _ _ _ us hl => match us, hl with | [_], _ => rfl⟩
  have tk : Takes (cxOf (L2.CX P w) P w K mg base ["value"] "is_table" (defScope (top 29)) (He.ga K "is_table") cdv A outer s H E) (WK E) := takes_of rfl rfl rfl rfl
  have nd := s_is_table.nd
  exact rss_one (rs_retV (re_callB call_isiY (isiCS (clT_ok (exL_at y.x 0 rfl)) (exL_at y.x 10 rfl)) rfl (y.free 10) boot_isinstance (ra_cons (re_var 0) (ra_cons (re_adr rfl (y.glo 9)) (ra_nil)))))

theorem w_require_table (y : HyL K mg) (pg : PgOk P fileS) (o_is_table : OkF P w K mg (gx K) 3 (He.ga K "is_table") ["value"] m_is_table) : OkF P w K mg (gx K) 4 (He.ga K "require_table") ["value"] m_require_table := by
  obtain ⟨fd, F⟩ := y.c.def_ 14 (d := d_require_table) rfl
  refine ⟨fd, fun base => fn_ok F s_require_table rfl rfl fun cdv A outer s H E hr => ?_, F.bindsN fun _ _ _ _ _ _ us hl => match us, hl with | [_], _ => rfl, F.kp, F.bindsA fun _ _ _ _ _ _ us hl => match us, hl with | [_], _ => rfl⟩
  have tk : Takes (cxOf (L2.CX P w) P w K mg base ["value"] "require_table" (defScope (top 30)) (He.ga K "require_table") cdv A outer s H E) (WK E) := takes_of rfl rfl rfl rfl
  have nd := s_require_table.nd
  exact rss_one (rs_if (rt_not (rt_val (re_callO o_is_table hr (y.glo 32) tk (ra_cons (re_var 0) (ra_nil))))) (rss_one (rs_raise (c := 2) rfl tk (y.err 27) (y.glo 26))) (rss_nil))

theorem w_require_cut (y : HyL K mg) (pg : PgOk P fileS) (o_require_table : OkF P w K mg (gx K) 4 (He.ga K "require_table") ["value"] m_require_table) (o_require_lot : OkF P w K mg (gx K) 5 (He.ga K "require_lot") ["value"] m_require_lot) : OkF P w K mg (gx K) 6 (He.ga K "require_cut") ["table", "low"] m_require_cut := by
  obtain ⟨fd, F⟩ := y.c.def_ 15 (d := d_require_cut) rfl
  refine ⟨fd, fun base => fn_ok F s_require_cut rfl rfl fun cdv A outer s H E hr => ?_, F.bindsN fun _ _ _ _ _ _ us hl => match us, hl with | [_, _], _ => rfl, F.kp, F.bindsA fun _ _ _ _ _ _ us hl => match us, hl with | [_, _], _ => rfl⟩
  have tk : Takes (cxOf (L2.CX P w) P w K mg base ["table", "low"] "require_cut" (defScope (top 39)) (He.ga K "require_cut") cdv A outer s H E) (WK E) := takes_of rfl rfl rfl rfl
  have nd := s_require_cut.nd
  exact rss_cons (rs_expr (re_callO o_require_table hr (y.glo 33) tk (ra_cons (re_var 0) (ra_nil)))) (rss_one (rs_expr (re_callO o_require_lot hr (y.glo 19) tk (ra_cons (re_var 1) (ra_nil)))))

theorem w_within_in (y : HyL K mg) (pg : PgOk P fileS)  : OkF P w K mg (gx K) 3 (He.ga K "within_in") ["one", "other"] m_within_in := by
  obtain ⟨fd, F⟩ := y.c.def_ 16 (d := d_within_in) rfl
  refine ⟨fd, fun base => fn_ok F s_within_in rfl rfl fun cdv A outer s H E hr => ?_, F.bindsN fun _ _ _ _ _ _ us hl => match us, hl with | [_, _], _ => rfl, F.kp, F.bindsA fun _ _ _ _ _ _ us hl => match us, hl with | [_, _], _ => rfl⟩
  have tk : Takes (cxOf (L2.CX P w) P w K mg base ["one", "other", "letter"] "within_in" (defScope (top 10)) (He.ga K "within_in") cdv A outer s H E) (WK E) := takes_of rfl rfl rfl rfl
  have nd := s_within_in.nd
  exact rss_one (rs_retV (re_callB (cr_all rfl) allS rfl (y.free 14) boot_all (ra_cons (re_lc (own := [("letter", 2)]) rfl nd (ri_any (re_var 0)) (blkOk_by (by kernel_rfl)) (inis_name 2) (by decide) (fun _ _ _ _ _ => rg_name 2 nd) (fun _ _ _ _ _ => rts_nil) (fun _ _ _ _ _ => re_cmp (op_inA hr) inAS (re_var 2) (re_var 1))) (ra_nil))))

theorem w_need_within (y : HyL K mg) (pg : PgOk P fileS) (o_within_in : OkF P w K mg (gx K) 3 (He.ga K "within_in") ["one", "other"] m_within_in) : OkF P w K mg (gx K) 4 (He.ga K "need_within") ["table", "low"] m_need_within := by
  obtain ⟨fd, F⟩ := y.c.def_ 17 (d := d_need_within) rfl
  refine ⟨fd, fun base => fn_ok F s_need_within rfl rfl fun cdv A outer s H E hr => ?_, F.bindsN fun _ _ _ _ _ _ us hl => match us, hl with | [_, _], _ => rfl, F.kp, F.bindsA fun _ _ _ _ _ _ us hl => match us, hl with | [_, _], _ => rfl⟩
  have tk : Takes (cxOf (L2.CX P w) P w K mg base ["table", "low"] "need_within" (defScope (top 40)) (He.ga K "need_within") cdv A outer s H E) (WK E) := takes_of rfl rfl rfl rfl
  have nd := s_need_within.nd
  exact rss_one (rs_if (rt_not (rt_val (re_callO o_within_in hr (y.glo 35) tk (ra_cons (re_var 1) (ra_cons (re_attr (slT_ok (exL_at y.x 5 rfl)) (re_var 0)) (ra_nil)))))) (rss_one (rs_raise (c := 3) rfl tk (y.err 37) (y.glo 36))) (rss_nil))

theorem w_groups_in (y : HyL K mg) (pg : PgOk P fileS)  : OkF P w K mg (gx K) 3 (He.ga K "groups_in") ["table", "low"] m_groups_in := by
  obtain ⟨fd, F⟩ := y.c.def_ 18 (d := d_groups_in) rfl
  refine ⟨fd, fun base => fn_ok F s_groups_in rfl rfl fun cdv A outer s H E hr => ?_, F.bindsN fun _ _ _ _ _ _ us hl => match us, hl with | [_, _], _ => rfl, F.kp, F.bindsA fun _ _ _ _ _ _ us hl => match us, hl with | [_, _], _ => rfl⟩
  have tk : Takes (cxOf (L2.CX P w) P w K mg base ["table", "low", "places", "found", "row", "part", "letter", "place"] "groups_in" (defScope (top 35)) (He.ga K "groups_in") cdv A outer s H E) (WK E) := takes_of rfl rfl rfl rfl
  have nd := s_groups_in.nd
  exact rss_cons (rs_asg (re_tup (ra_cons (re_lc (own := [("letter", 6)]) rfl nd (ri_any (re_var 1)) (blkOk_by (by kernel_rfl)) (inis_name 6) (by decide) (fun _ _ _ _ _ => rg_name 6 nd) (fun _ _ _ _ _ => rts_nil) (fun _ _ _ _ _ => re_index (re_attr (slT_ok (exL_at y.x 5 rfl)) (re_var 0)) (ra_cons (re_var 6) (ra_nil)))) (ra_cons (re_newDT) (ra_nil)))) (rg_tup (n := 2) rfl (rgs_cons (rg_name 2 nd) (rgs_cons (rg_name 3 nd) (rgs_nil))) (consG_len (consG_len (nilG_len))))) (rss_cons (rs_for (passes_of rfl) rfl (ri_any (re_attr (slT_ok (exL_at y.x 4 rfl)) (re_var 0))) (rg_name 4 nd) (rss_cons (rs_set 5 nd (re_callTy (call_tupleA rfl) tupleAS rfl (y.free 8) boot_tuple (ra_cons (re_lc (own := [("place", 7)]) rfl nd (ri_any (re_var 2)) (blkOk_by (by kernel_rfl)) (inis_name 7) (by decide) (fun _ _ _ _ _ => rg_name 7 nd) (fun _ _ _ _ _ => rts_nil) (fun _ _ _ _ _ => re_ixA hr (re_var 4) (re_var 7))) (ra_nil)))) (rss_cons (rs_if (rt_cmp (op_notInA hr) inAS (re_var 5) (re_var 3)) (rss_one (rs_setA hr (re_new (ra_nil)) (re_var 3) (re_var 5))) (rss_nil)) (rss_one (rs_expr (re_appR (re_ixA hr (re_var 3) (re_var 5)) (ra_cons (re_var 4) (ra_nil)))))))) (rss_one (rs_retV (re_dcT (own := [("part", 5)]) hr rfl nd (ri_any (re_callB (cr_sortedA rfl (Room.u64 hr)) sortedAS rfl (y.free 28) boot_sorted (ra_cons (re_var 3) (ra_nil)))) (blkOk_by (by kernel_rfl)) (inis_name 5) (by decide) (fun _ _ _ _ _ => rg_name 5 nd) (fun _ _ _ _ _ => rts_nil) (fun _ _ _ _ _ => re_var 5) (fun _ _ _ _ _ => re_frz (re_ixA hr (re_var 3) (re_var 5)))))))

theorem w_groups_of (y : HyL K mg) (pg : PgOk P fileS) (o_require_cut : OkF P w K mg (gx K) 6 (He.ga K "require_cut") ["table", "low"] m_require_cut) (o_need_within : OkF P w K mg (gx K) 4 (He.ga K "need_within") ["table", "low"] m_need_within) (o_groups_in : OkF P w K mg (gx K) 3 (He.ga K "groups_in") ["table", "low"] m_groups_in) : OkF P w K mg (gx K) 7 (He.ga K "groups_of") ["table", "low"] m_groups_of := by
  obtain ⟨fd, F⟩ := y.c.def_ 19 (d := d_groups_of) rfl
  refine ⟨fd, fun base => fn_ok F s_groups_of rfl rfl fun cdv A outer s H E hr => ?_, F.bindsN fun _ _ _ _ _ _ us hl => match us, hl with | [_, _], _ => rfl, F.kp, F.bindsA fun _ _ _ _ _ _ us hl => match us, hl with | [_, _], _ => rfl⟩
  have tk : Takes (cxOf (L2.CX P w) P w K mg base ["table", "low", "part", "rows"] "groups_of" (defScope (top 44)) (He.ga K "groups_of") cdv A outer s H E) (WK E) := takes_of rfl rfl rfl rfl
  have nd := s_groups_of.nd
  exact rss_cons (rs_expr (re_callO o_require_cut hr (y.glo 34) tk (ra_cons (re_var 0) (ra_cons (re_var 1) (ra_nil))))) (rss_cons (rs_expr (re_callO o_need_within hr (y.glo 38) tk (ra_cons (re_var 0) (ra_cons (re_var 1) (ra_nil))))) (rss_one (rs_retV (re_dcT (own := [("part", 2), ("rows", 3)]) hr rfl nd (ri_items (re_callO o_groups_in hr (y.glo 39) tk (ra_cons (re_var 0) (ra_cons (re_var 1) (ra_nil))))) (blkOk_by (by kernel_rfl)) (inis_tup (iniss_cons (inis_name 2) (iniss_cons (inis_name 3) (iniss_nil)))) (by decide) (fun _ _ _ _ _ => rg_tup (n := 2) rfl (rgs_cons (rg_name 2 nd) (rgs_cons (rg_name 3 nd) (rgs_nil))) (consG_len (consG_len (nilG_len)))) (fun _ _ _ _ _ => rts_nil) (fun _ _ _ _ _ => re_var 2) (fun _ _ _ _ _ => re_callB call_lenA lenAS rfl (y.free 0) boot_len (ra_cons (re_var 3) (ra_nil)))))))

theorem w_is_within (y : HyL K mg) (pg : PgOk P fileS) (o_is_whole : OkF P w K mg (gx K) 3 (He.ga K "is_whole") ["value"] m_is_whole) : OkF P w K mg (gx K) 4 (He.ga K "is_within") ["value", "least", "most"] m_is_within := by
  obtain ⟨fd, F⟩ := y.c.def_ 20 (d := d_is_within) rfl
  refine ⟨fd, fun base => fn_ok F s_is_within rfl rfl fun cdv A outer s H E hr => ?_, F.bindsN fun _ _ _ _ _ _ us hl => match us, hl with | [_, _, _], _ => rfl, F.kp, F.bindsA fun _ _ _ _ _ _ us hl => match us, hl with | [_, _, _], _ => rfl⟩
  have tk : Takes (cxOf (L2.CX P w) P w K mg base ["value", "least", "most"] "is_within" (defScope (top 16)) (He.ga K "is_within") cdv A outer s H E) (WK E) := takes_of rfl rfl rfl rfl
  have nd := s_is_within.nd
  exact rss_one (rs_retV (re_and (re_callO o_is_whole hr (y.glo 21) tk (ra_cons (re_var 0) (ra_nil))) (re_one (re_chain op_le cmpS op_le cmpS rI0_mono (re_var 1) (re_var 0) (re_var 2)))))

theorem w_require_within (y : HyL K mg) (pg : PgOk P fileS) (o_is_within : OkF P w K mg (gx K) 4 (He.ga K "is_within") ["value", "least", "most"] m_is_within) : OkF P w K mg (gx K) 5 (He.ga K "require_within") ["value", "least", "most"] m_require_within := by
  obtain ⟨fd, F⟩ := y.c.def_ 21 (d := d_require_within) rfl
  refine ⟨fd, fun base => fn_ok F s_require_within rfl rfl fun cdv A outer s H E hr => ?_, F.bindsN fun _ _ _ _ _ _ us hl => match us, hl with | [_, _, _], _ => rfl, F.kp, F.bindsA fun _ _ _ _ _ _ us hl => match us, hl with | [_, _, _], _ => rfl⟩
  have tk : Takes (cxOf (L2.CX P w) P w K mg base ["value", "least", "most"] "require_within" (defScope (top 19)) (He.ga K "require_within") cdv A outer s H E) (WK E) := takes_of rfl rfl rfl rfl
  have nd := s_require_within.nd
  exact rss_one (rs_if (rt_not (rt_val (re_callO o_is_within hr (y.glo 43) tk (ra_cons (re_var 0) (ra_cons (re_var 1) (ra_cons (re_var 2) (ra_nil))))))) (rss_one (rs_raiseV (c := 4) (q := q_InvalidNumber) rfl tk (n_InvalidNumber y pg) c_InvalidNumber fo_InvalidNumber pg.sup (y.free 45) b_InvalidNumber hr (y.glo 44) (ra_cons (re_var 0) (ra_nil)))) (rss_nil))

theorem w_require_cut_and_power (y : HyL K mg) (pg : PgOk P fileS) (o_require_cut : OkF P w K mg (gx K) 6 (He.ga K "require_cut") ["table", "low"] m_require_cut) (o_require_within : OkF P w K mg (gx K) 5 (He.ga K "require_within") ["value", "least", "most"] m_require_within) (o_need_within : OkF P w K mg (gx K) 4 (He.ga K "need_within") ["table", "low"] m_need_within) : OkF P w K mg (gx K) 7 (He.ga K "require_cut_and_power") ["table", "low", "k"] m_require_cut_and_power := by
  obtain ⟨fd, F⟩ := y.c.def_ 22 (d := d_require_cut_and_power) rfl
  refine ⟨fd, fun base => fn_ok F s_require_cut_and_power rfl rfl fun cdv A outer s H E hr => ?_, F.bindsN fun _ _ _ _ _ _ us hl => match us, hl with | [_, _, _], _ => rfl, F.kp, F.bindsA fun _ _ _ _ _ _ us hl => match us, hl with | [_, _, _], _ => rfl⟩
  have tk : Takes (cxOf (L2.CX P w) P w K mg base ["table", "low", "k"] "require_cut_and_power" (defScope (top 41)) (He.ga K "require_cut_and_power") cdv A outer s H E) (WK E) := takes_of rfl rfl rfl rfl
  have nd := s_require_cut_and_power.nd
  exact rss_cons (rs_expr (re_callO o_require_cut hr (y.glo 34) tk (ra_cons (re_var 0) (ra_cons (re_var 1) (ra_nil))))) (rss_cons (rs_expr (re_callO o_require_within hr (y.glo 46) tk (ra_cons (re_var 2) (ra_cons (re_int) (ra_cons (re_gint rfl (y.int 42)) (ra_nil)))))) (rss_cons (rs_expr (re_callO o_need_within hr (y.glo 38) tk (ra_cons (re_var 0) (ra_cons (re_var 1) (ra_nil))))) (rss_one (rs_if (rt_cmp op_gt cmpS (re_callB call_lenA lenAS rfl (y.free 0) boot_len (ra_cons (re_attr (slT_ok (exL_at y.x 4 rfl)) (re_var 0)) (ra_nil))) (re_op op_shlW shlS (re_int) (re_var 2))) (rss_one (rs_raise (c := 3) rfl tk (y.err 37) (y.glo 36))) (rss_nil)))))

theorem w_does_fit (y : HyL K mg) (pg : PgOk P fileS) (o_groups_in : OkF P w K mg (gx K) 3 (He.ga K "groups_in") ["table", "low"] m_groups_in) : OkF P w K mg (gx K) 4 (He.ga K "does_fit") ["piece", "low", "k", "j"] m_does_fit := by
  obtain ⟨fd, F⟩ := y.c.def_ 23 (d := d_does_fit) rfl
  refine ⟨fd, fun base => fn_ok F s_does_fit rfl rfl fun cdv A outer s H E hr => ?_, F.bindsN fun _ _ _ _ _ _ us hl => match us, hl with | [_, _, _, _], _ => rfl, F.kp, F.bindsA fun _ _ _ _ _ _ us hl => match us, hl with | [_, _, _, _], _ => rfl⟩
  have tk : Takes (cxOf (L2.CX P w) P w K mg base ["piece", "low", "k", "j", "groups", "rows"] "does_fit" (defScope (top 37)) (He.ga K "does_fit") cdv A outer s H E) (WK E) := takes_of rfl rfl rfl rfl
  have nd := s_does_fit.nd
  exact rss_cons (rs_set 4 nd (re_callO o_groups_in hr (y.glo 39) tk (ra_cons (re_var 0) (ra_cons (re_var 1) (ra_nil))))) (rss_one (rs_retV (re_and (re_cmp op_le cmpS (re_callB call_lenA lenAS rfl (y.free 0) boot_len (ra_cons (re_var 4) (ra_nil))) (re_op op_shlW shlS (re_int) (re_op op_subA subS (re_var 2) (re_var 3)))) (re_one (re_callB (cr_all rfl) allS rfl (y.free 14) boot_all (ra_cons (re_lc (own := [("rows", 5)]) rfl nd (ri_valsA (re_var 4)) (blkOk_by (by kernel_rfl)) (inis_name 5) (by decide) (fun _ _ _ _ _ => rg_name 5 nd) (fun _ _ _ _ _ => rts_nil) (fun _ _ _ _ _ => re_cmp op_le cmpS (re_callB call_lenA lenAS rfl (y.free 0) boot_len (ra_cons (re_var 5) (ra_nil))) (re_op op_shlW shlS (re_int) (re_var 3)))) (ra_nil)))))))

theorem w_is_piece (y : HyL K mg) (pg : PgOk P fileS) (o_is_within : OkF P w K mg (gx K) 4 (He.ga K "is_within") ["value", "least", "most"] m_is_within) (o_is_table : OkF P w K mg (gx K) 3 (He.ga K "is_table") ["value"] m_is_table) (o_does_fit : OkF P w K mg (gx K) 4 (He.ga K "does_fit") ["piece", "low", "k", "j"] m_does_fit) : OkF P w K mg (gx K) 5 (He.ga K "is_piece") ["table", "low", "k", "value"] m_is_piece := by
  obtain ⟨fd, F⟩ := y.c.def_ 24 (d := d_is_piece) rfl
  refine ⟨fd, fun base => fn_ok F s_is_piece rfl rfl fun cdv A outer s H E hr => ?_, F.bindsN fun _ _ _ _ _ _ us hl => match us, hl with | [_, _, _, _], _ => rfl, F.kp, F.bindsA fun _ _ _ _ _ _ us hl => match us, hl with | [_, _, _, _], _ => rfl⟩
  have tk : Takes (cxOf (L2.CX P w) P w K mg base ["table", "low", "k", "value"] "is_piece" (defScope (top 38)) (He.ga K "is_piece") cdv A outer s H E) (WK E) := takes_of rfl rfl rfl rfl
  have nd := s_is_piece.nd
  exact rss_cons (rs_if (rt_w (rw_or (rt_not (rt_val (re_callB call_isiY (isiIS (clT_ok (exL_at y.x 0 rfl)) (exL_at y.x 1 rfl)) rfl (y.free 10) boot_isinstance (ra_cons (re_var 3) (ra_cons (re_ty .tuple rfl (y.free 8) boot_tuple) (ra_nil)))))) (rw_or (rt_cmp (op_neD (Room.u64 hr)) neS (re_callB call_lenA lenAS rfl (y.free 0) boot_len (ra_cons (re_var 3) (ra_nil))) (re_gint rfl (y.int 48))) (rw_or (rt_not (rt_val (re_callO o_is_within hr (y.glo 43) tk (ra_cons (re_ixA hr (re_var 3) (re_int)) (ra_cons (re_int) (ra_cons (re_var 2) (ra_nil))))))) (rw_or1 (rt_not (rt_val (re_callO o_is_table hr (y.glo 32) tk (ra_cons (re_ixA hr (re_var 3) (re_int)) (ra_nil)))))))))) (rss_one (rs_retV (re_bl))) (rss_nil)) (rss_cons (rs_if (rt_w (rw_or (rt_cmp (op_neD (Room.u64 hr)) neS (re_attr (slT_ok (exL_at y.x 5 rfl)) (re_ixA hr (re_var 3) (re_int))) (re_attr (slT_ok (exL_at y.x 5 rfl)) (re_var 0))) (rw_or1 (rt_cmp (op_eqD (Room.u64 hr)) eqS (re_attr (slT_ok (exL_at y.x 4 rfl)) (re_ixA hr (re_var 3) (re_int))) (re_tup (ra_nil)))))) (rss_one (rs_retV (re_bl))) (rss_nil)) (rss_one (rs_retV (re_callO o_does_fit hr (y.glo 49) tk (ra_cons (re_ixA hr (re_var 3) (re_int)) (ra_cons (re_var 1) (ra_cons (re_var 2) (ra_cons (re_ixA hr (re_var 3) (re_int)) (ra_nil)))))))))

theorem w_is_parted (y : HyL K mg) (pg : PgOk P fileS) (o_require_cut_and_power : OkF P w K mg (gx K) 7 (He.ga K "require_cut_and_power") ["table", "low", "k"] m_require_cut_and_power) (o_is_piece : OkF P w K mg (gx K) 5 (He.ga K "is_piece") ["table", "low", "k", "value"] m_is_piece) : OkF P w K mg (gx K) 8 (He.ga K "is_parted") ["table", "low", "k", "value"] m_is_parted := by
  obtain ⟨fd, F⟩ := y.c.def_ 25 (d := d_is_parted) rfl
  refine ⟨fd, fun base => fn_ok F s_is_parted rfl rfl fun cdv A outer s H E hr => ?_, F.bindsN fun _ _ _ _ _ _ us hl => match us, hl with | [_, _, _, _], _ => rfl, F.kp, F.bindsA fun _ _ _ _ _ _ us hl => match us, hl with | [_, _, _, _], _ => rfl⟩
  have tk : Takes (cxOf (L2.CX P w) P w K mg base ["table", "low", "k", "value", "rows", "one", "j", "piece", "row"] "is_parted" (defScope (top 46)) (He.ga K "is_parted") cdv A outer s H E) (WK E) := takes_of rfl rfl rfl rfl
  have nd := s_is_parted.nd
  exact rss_cons (rs_expr (re_callO o_require_cut_and_power hr (y.glo 47) tk (ra_cons (re_var 0) (ra_cons (re_var 1) (ra_cons (re_var 2) (ra_nil)))))) (rss_cons (rs_if (rt_w (rw_or (rt_not (rt_val (re_callB call_isiY (isiIS (clT_ok (exL_at y.x 0 rfl)) (exL_at y.x 1 rfl)) rfl (y.free 10) boot_isinstance (ra_cons (re_var 3) (ra_cons (re_ty .tuple rfl (y.free 8) boot_tuple) (ra_nil)))))) (rw_or1 (rt_cmp op_gt cmpS (re_callB call_lenA lenAS rfl (y.free 0) boot_len (ra_cons (re_var 3) (ra_nil))) (re_op op_addA addS (re_op op_mulB mulAS (re_int) (re_var 2)) (re_int)))))) (rss_one (rs_retV (re_bl))) (rss_nil)) (rss_cons (rs_if (rt_not (rt_val (re_callB (cr_all rfl) allS rfl (y.free 14) boot_all (ra_cons (re_lc (own := [("one", 5)]) rfl nd (ri_any (re_var 3)) (blkOk_by (by kernel_rfl)) (inis_name 5) (by decide) (fun _ _ _ _ _ => rg_name 5 nd) (fun _ _ _ _ _ => rts_nil) (fun _ _ _ _ _ => re_callO o_is_piece hr (y.glo 50) takes0 (ra_cons (re_var 0) (ra_cons (re_var 1) (ra_cons (re_var 2) (ra_cons (re_var 5) (ra_nil))))))) (ra_nil))))) (rss_one (rs_retV (re_bl))) (rss_nil)) (rss_cons (rs_setLc2 4 (own := [("j", 6), ("piece", 7), ("row", 8)]) (vs1 := [8]) rfl nd (ri_any (re_var 3)) (blkOk_by (by kernel_rfl)) (by decide) (inis_tup (iniss_cons (inis_name 6) (iniss_cons (inis_name 7) (iniss_nil)))) (by decide) (inis_name 8) (by decide) (fun _ _ _ _ _ => rg_tup (n := 2) rfl (rgs_cons (rg_name 6 nd) (rgs_cons (rg_name 7 nd) (rgs_nil))) (consG_len (consG_len (nilG_len)))) (fun _ _ _ _ _ => rts_nil) (fun _ _ _ _ _ => ri_any (re_attr (slT_ok (exL_at y.x 4 rfl)) (re_var 7))) (fun _ _ _ _ _ => rg_name 8 nd) (fun _ _ _ _ _ => rts_nil) (fun _ _ _ _ _ => re_var 8)) (rss_one (rs_retV (re_cmp (op_eqD (Room.u64 hr)) eqS (re_callB (cr_sortedA rfl (Room.u64 hr)) sortedAS rfl (y.free 28) boot_sorted (ra_cons (re_var 4) (ra_nil))) (re_callTy call_list_of listS rfl (y.free 51) boot_list (ra_cons (re_attr (slT_ok (exL_at y.x 4 rfl)) (re_var 0)) (ra_nil)))))))))

theorem w_lm_right_13_1 (y : HyL K mg) (pg : PgOk P fileS) (o_is_parted : OkF P w K mg (gx K) 8 (He.ga K "is_parted") ["table", "low", "k", "value"] m_is_parted) : LamOk P w K mg (gx K) 8 6 13 1 m_lm_right_13_1 := by
  obtain ⟨fd, F⟩ := y.c.def_ 36 (d := d_right) rfl
  refine ⟨lt_lm_right_13_1.1, lt_lm_right_13_1.2.1, lt_lm_right_13_1.2.2.1, lt_lm_right_13_1.2.2.2, ["_law_one", "_law_two", "_law_three"], _, lamK_of F (by kernel_rfl), s_lm_right_13_1, rfl, fun _ _ _ us hl => match us, hl with | [_, _, _], _ => by first | rfl | with_unfolding_all rfl, fun base f cdv A outer s H E hr => ?_⟩
  have nd := s_lm_right_13_1.nd
  exact re_callO o_is_parted hr (y.glo 52) (takes_of rfl rfl rfl rfl) (ra_cons (re_var 0) (ra_cons (re_var 1) (ra_cons (re_var 2) (ra_cons (re_non) (ra_nil)))))

theorem w_power_in (y : HyL K mg) (pg : PgOk P fileS)  : OkF P w K mg (gx K) 3 (He.ga K "power_in") ["number"] m_power_in := by
  obtain ⟨fd, F⟩ := y.c.def_ 26 (d := d_power_in) rfl
  refine ⟨fd, fun base => fn_ok F s_power_in rfl rfl fun cdv A outer s H E hr => ?_, F.bindsN fun _ _ _ _ _ _ us hl => match us, hl with | [_], _ => rfl, F.kp, F.bindsA fun _ _ _ _ _ _ us hl => match us, hl with | [_], _ => rfl⟩
  have tk : Takes (cxOf (L2.CX P w) P w K mg base ["number"] "power_in" (defScope (top 17)) (He.ga K "power_in") cdv A outer s H E) (WK E) := takes_of rfl rfl rfl rfl
  have nd := s_power_in.nd
  exact rss_one (rs_retV (re_if (rt_cmp op_gt cmpS (re_var 0) (re_int)) (re_bits (re_op op_subA subS (re_var 0) (re_int))) (re_int)))

theorem w_made_table (y : HyL K mg) (pg : PgOk P fileS) (o_Table_init : OkF P w K mg (gx K) 7 (He.fAd K ("Table", some "__init__")) ["self", "lot", "rows"] m_Table_init) (o_Table_keep : OkF P w K mg (gx K) 4 (He.fAd K ("Table", some "keep")) ["self", "lot", "rows"] m_Table_keep) : OkF P w K mg (gx K) 9 (He.ga K "made_table") ["lot", "rows"] m_made_table := by
  obtain ⟨fd, F⟩ := y.c.def_ 27 (d := d_made_table) rfl
  refine ⟨fd, fun base => fn_ok F s_made_table rfl rfl fun cdv A outer s H E hr => ?_, F.bindsN fun _ _ _ _ _ _ us hl => match us, hl with | [_, _], _ => rfl, F.kp, F.bindsA fun _ _ _ _ _ _ us hl => match us, hl with | [_, _], _ => rfl⟩
  have tk : Takes (cxOf (L2.CX P w) P w K mg base ["lot", "rows", "found"] "made_table" (defScope (top 28)) (He.ga K "made_table") cdv A outer s H E) (WK E) := takes_of rfl rfl rfl rfl
  have nd := s_made_table.nd
  exact rss_cons (rs_set 2 nd (re_make (c := 0) o_Table_init (mkB_ok (exL_at y.x 8 rfl)) hr (y.glo 9) tk (ra_cons (re_ktup (ra_nil)) (ra_cons (re_ktup (ra_nil)) (ra_nil))))) (rss_cons (rs_expr (re_meth (c := 0) o_Table_keep (methB_ok (exL_at y.x 6 rfl)) (clsSB_ok (exL_at y.x 7 rfl)).c hr tk (re_var 2) (ra_cons (re_var 0) (ra_cons (re_var 1) (ra_nil))))) (rss_one (rs_retV (re_var 2))))

theorem w_parted_in (y : HyL K mg) (pg : PgOk P fileS) (o_groups_in : OkF P w K mg (gx K) 3 (He.ga K "groups_in") ["table", "low"] m_groups_in) (o_power_in : OkF P w K mg (gx K) 3 (He.ga K "power_in") ["number"] m_power_in) (o_made_table : OkF P w K mg (gx K) 9 (He.ga K "made_table") ["lot", "rows"] m_made_table) : OkF P w K mg (gx K) 10 (He.ga K "parted_in") ["table", "low", "k"] m_parted_in := by
  obtain ⟨fd, F⟩ := y.c.def_ 28 (d := d_parted_in) rfl
  refine ⟨fd, fun base => fn_ok F s_parted_in rfl rfl fun cdv A outer s H E hr => ?_, F.bindsN fun _ _ _ _ _ _ us hl => match us, hl with | [_, _, _], _ => rfl, F.kp, F.bindsA fun _ _ _ _ _ _ us hl => match us, hl with | [_, _, _], _ => rfl⟩
  have tk : Takes (cxOf (L2.CX P w) P w K mg base ["table", "low", "k", "groups", "found", "j", "some", "most", "lot", "rows", "row"] "parted_in" (defScope (top 36)) (He.ga K "parted_in") cdv A outer s H E) (WK E) := takes_of rfl rfl rfl rfl
  have nd := s_parted_in.nd
  exact rss_cons (rs_parVL2 3 4 nd (re_listVals rfl (re_callO o_groups_in hr (y.glo 39) tk (ra_cons (re_var 0) (ra_cons (re_var 1) (ra_nil)))) rfl (y.free 51)) (ra_nil)) (rss_cons (rs_for (passes_of rfl) rfl (ri_range rfl (y.free 3) (ra_cons (re_op op_addA addS (re_var 2) (re_int)) (ra_nil))) (rg_name 5 nd) (rss_cons (rs_par 6 7 rfl nd (ra_cons (re_lc (own := [("rows", 9)]) rfl nd (ri_any (re_var 3)) (blkOk_by (by kernel_rfl)) (inis_name 9) (by decide) (fun _ _ _ _ _ => rg_name 9 nd) (fun _ _ _ _ _ => rts_one (rt_cmp (op_eqD (Room.u64 hr)) eqS (re_callO o_power_in hr (y.glo 54) takes0 (ra_cons (re_callB call_lenA lenAS rfl (y.free 0) boot_len (ra_cons (re_var 9) (ra_nil))) (ra_nil))) (re_var 5))) (fun _ _ _ _ _ => re_var 9)) (ra_cons (re_op op_shlW shlS (re_int) (re_op op_subA subS (re_var 2) (re_var 5))) (ra_nil)))) (rss_one (rs_for (passes_of rfl) rfl (ri_any (re_tup (ra_cons (re_slice (re_var 6) (ro_none) (ro_some (re_var 7))) (ra_cons (re_slice (re_var 6) (ro_some (re_var 7)) (ro_none)) (ra_nil))))) (rg_name 8 nd) (rss_one (rs_if (rt_cmp (op_neD (Room.u64 hr)) neS (re_var 8) (re_lst (ra_nil))) (rss_one (rs_app 4 (ra_cons (re_tup (ra_cons (re_var 5) (ra_cons (re_callO o_made_table hr (y.glo 55) tk (ra_cons (re_attr (slT_ok (exL_at y.x 5 rfl)) (re_var 0)) (ra_cons (re_lc2 (own := [("rows", 9), ("row", 10)]) (vs1 := [10]) rfl nd (ri_any (re_var 8)) (blkOk_by (by kernel_rfl)) (by decide) (inis_name 9) (by decide) (inis_name 10) (by decide) (fun _ _ _ _ _ => rg_name 9 nd) (fun _ _ _ _ _ => rts_nil) (fun _ _ _ _ _ => ri_any (re_var 9)) (fun _ _ _ _ _ => rg_name 10 nd) (fun _ _ _ _ _ => rts_nil) (fun _ _ _ _ _ => re_var 10)) (ra_nil)))) (ra_nil)))) (ra_nil)))) (rss_nil))))))) (rss_one (rs_retF (re_var 4))))

theorem w_parted (y : HyL K mg) (pg : PgOk P fileS) (o_require_cut_and_power : OkF P w K mg (gx K) 7 (He.ga K "require_cut_and_power") ["table", "low", "k"] m_require_cut_and_power) (o_parted_in : OkF P w K mg (gx K) 10 (He.ga K "parted_in") ["table", "low", "k"] m_parted_in) : OkF P w K mg (gx K) 11 (He.ga K "parted") ["table", "low", "k"] m_parted := by
  obtain ⟨fd, F⟩ := y.c.def_ 29 (d := d_parted) rfl
  refine ⟨fd, fun base => fn_ok F s_parted rfl rfl fun cdv A outer s H E hr => ?_, F.bindsN fun _ _ _ _ _ _ us hl => match us, hl with | [_, _, _], _ => rfl, F.kp, F.bindsA fun _ _ _ _ _ _ us hl => match us, hl with | [_, _, _], _ => rfl⟩
  have tk : Takes (cxOf (L2.CX P w) P w K mg base ["table", "low", "k"] "parted" (defScope (top 45)) (He.ga K "parted") cdv A outer s H E) (WK E) := takes_of rfl rfl rfl rfl
  have nd := s_parted.nd
  exact rss_cons (rs_expr (re_callO o_require_cut_and_power hr (y.glo 47) tk (ra_cons (re_var 0) (ra_cons (re_var 1) (ra_cons (re_var 2) (ra_nil)))))) (rss_one (rs_retV (re_callTy (call_tupleA rfl) tupleAS rfl (y.free 8) boot_tuple (ra_cons (re_callO o_parted_in hr (y.glo 56) tk (ra_cons (re_var 0) (ra_cons (re_var 1) (ra_cons (re_var 2) (ra_nil))))) (ra_nil)))))

theorem w_is_integer (y : HyL K mg) (pg : PgOk P fileS) (o_is_whole : OkF P w K mg (gx K) 3 (He.ga K "is_whole") ["value"] m_is_whole) : OkF P w K mg (gx K) 4 (He.ga K "is_integer") ["value"] m_is_integer := by
  obtain ⟨fd, F⟩ := y.c.def_ 30 (d := d_is_integer) rfl
  refine ⟨fd, fun base => fn_ok F s_is_integer rfl rfl fun cdv A outer s H E hr => ?_, F.bindsN fun _ _ _ _ _ _ us hl => match us, hl with | [_], _ => rfl, F.kp, F.bindsA fun _ _ _ _ _ _ us hl => match us, hl with | [_], _ => rfl⟩
  have tk : Takes (cxOf (L2.CX P w) P w K mg base ["value"] "is_integer" (defScope (top 15)) (He.ga K "is_integer") cdv A outer s H E) (WK E) := takes_of rfl rfl rfl rfl
  have nd := s_is_integer.nd
  exact rss_one (rs_retV (re_and (re_callO o_is_whole hr (y.glo 21) tk (ra_cons (re_var 0) (ra_nil))) (re_one (re_chain op_lt cmpS op_lt cmpS rI0_mono (re_neg (re_gint rfl (y.int 58))) (re_var 0) (re_gint rfl (y.int 58))))))

theorem w_require_from_one (y : HyL K mg) (pg : PgOk P fileS) (o_is_integer : OkF P w K mg (gx K) 4 (He.ga K "is_integer") ["value"] m_is_integer) : OkF P w K mg (gx K) 5 (He.ga K "require_from_one") ["value"] m_require_from_one := by
  obtain ⟨fd, F⟩ := y.c.def_ 31 (d := d_require_from_one) rfl
  refine ⟨fd, fun base => fn_ok F s_require_from_one rfl rfl fun cdv A outer s H E hr => ?_, F.bindsN fun _ _ _ _ _ _ us hl => match us, hl with | [_], _ => rfl, F.kp, F.bindsA fun _ _ _ _ _ _ us hl => match us, hl with | [_], _ => rfl⟩
  have tk : Takes (cxOf (L2.CX P w) P w K mg base ["value"] "require_from_one" (defScope (top 18)) (He.ga K "require_from_one") cdv A outer s H E) (WK E) := takes_of rfl rfl rfl rfl
  have nd := s_require_from_one.nd
  exact rss_one (rs_if (rt_w (rw_or (rt_not (rt_val (re_callO o_is_integer hr (y.glo 59) tk (ra_cons (re_var 0) (ra_nil))))) (rw_or1 (rt_cmp op_lt cmpS (re_var 0) (re_int))))) (rss_one (rs_raiseV (c := 4) (q := q_InvalidNumber) rfl tk (n_InvalidNumber y pg) c_InvalidNumber fo_InvalidNumber pg.sup (y.free 45) b_InvalidNumber hr (y.glo 44) (ra_cons (re_var 0) (ra_nil)))) (rss_nil))

theorem w_level_of (y : HyL K mg) (pg : PgOk P fileS) (o_require_from_one : OkF P w K mg (gx K) 5 (He.ga K "require_from_one") ["value"] m_require_from_one) (o_power_in : OkF P w K mg (gx K) 3 (He.ga K "power_in") ["number"] m_power_in) : OkF P w K mg (gx K) 6 (He.ga K "level_of") ["number"] m_level_of := by
  obtain ⟨fd, F⟩ := y.c.def_ 32 (d := d_level_of) rfl
  refine ⟨fd, fun base => fn_ok F s_level_of rfl rfl fun cdv A outer s H E hr => ?_, F.bindsN fun _ _ _ _ _ _ us hl => match us, hl with | [_], _ => rfl, F.kp, F.bindsA fun _ _ _ _ _ _ us hl => match us, hl with | [_], _ => rfl⟩
  have tk : Takes (cxOf (L2.CX P w) P w K mg base ["number"] "level_of" (defScope (top 43)) (He.ga K "level_of") cdv A outer s H E) (WK E) := takes_of rfl rfl rfl rfl
  have nd := s_level_of.nd
  exact rss_cons (rs_expr (re_callO o_require_from_one hr (y.glo 60) tk (ra_cons (re_var 0) (ra_nil)))) (rss_one (rs_retV (re_callO o_power_in hr (y.glo 54) tk (ra_cons (re_var 0) (ra_nil)))))

theorem w_most_parts (y : HyL K mg) (pg : PgOk P fileS) (o_require_within : OkF P w K mg (gx K) 5 (He.ga K "require_within") ["value", "least", "most"] m_require_within) : OkF P w K mg (gx K) 6 (He.ga K "most_parts") ["k"] m_most_parts := by
  obtain ⟨fd, F⟩ := y.c.def_ 33 (d := d_most_parts) rfl
  refine ⟨fd, fun base => fn_ok F s_most_parts rfl rfl fun cdv A outer s H E hr => ?_, F.bindsN fun _ _ _ _ _ _ us hl => match us, hl with | [_], _ => rfl, F.kp, F.bindsA fun _ _ _ _ _ _ us hl => match us, hl with | [_], _ => rfl⟩
  have tk : Takes (cxOf (L2.CX P w) P w K mg base ["k"] "most_parts" (defScope (top 47)) (He.ga K "most_parts") cdv A outer s H E) (WK E) := takes_of rfl rfl rfl rfl
  have nd := s_most_parts.nd
  exact rss_cons (rs_expr (re_callO o_require_within hr (y.glo 46) tk (ra_cons (re_var 0) (ra_cons (re_int) (ra_cons (re_gint rfl (y.int 42)) (ra_nil)))))) (rss_one (rs_retV (re_op op_addA addS (re_op op_mulB mulAS (re_int) (re_var 0)) (re_int))))

theorem w_require_pieces (y : HyL K mg) (pg : PgOk P fileS) (o_is_within : OkF P w K mg (gx K) 4 (He.ga K "is_within") ["value", "least", "most"] m_is_within) (o_is_table : OkF P w K mg (gx K) 3 (He.ga K "is_table") ["value"] m_is_table) : OkF P w K mg (gx K) 5 (He.ga K "require_pieces") ["value"] m_require_pieces := by
  obtain ⟨fd, F⟩ := y.c.def_ 34 (d := d_require_pieces) rfl
  refine ⟨fd, fun base => fn_ok F s_require_pieces rfl rfl fun cdv A outer s H E hr => ?_, F.bindsN fun _ _ _ _ _ _ us hl => match us, hl with | [_], _ => rfl, F.kp, F.bindsA fun _ _ _ _ _ _ us hl => match us, hl with | [_], _ => rfl⟩
  have tk : Takes (cxOf (L2.CX P w) P w K mg base ["value", "one"] "require_pieces" (defScope (top 42)) (He.ga K "require_pieces") cdv A outer s H E) (WK E) := takes_of rfl rfl rfl rfl
  have nd := s_require_pieces.nd
  exact rss_cons (rs_if (rt_w (rw_or (rt_not (rt_val (re_callB call_isiY (isiIS (clT_ok (exL_at y.x 0 rfl)) (exL_at y.x 1 rfl)) rfl (y.free 10) boot_isinstance (ra_cons (re_var 0) (ra_cons (re_ty .tuple rfl (y.free 8) boot_tuple) (ra_nil)))))) (rw_or1 (rt_not (rt_chain op_le cmpS op_le cmpS rI0_mono (re_int) (re_callB call_lenA lenAS rfl (y.free 0) boot_len (ra_cons (re_var 0) (ra_nil))) (re_gint rfl (y.int 63))))))) (rss_one (rs_raise (c := 3) rfl tk (y.err 37) (y.glo 36))) (rss_nil)) (rss_one (rs_for (passes_of rfl) rfl (ri_any (re_var 0)) (rg_name 1 nd) (rss_cons (rs_if (rt_w (rw_or (rt_not (rt_val (re_callB call_isiY (isiIS (clT_ok (exL_at y.x 0 rfl)) (exL_at y.x 1 rfl)) rfl (y.free 10) boot_isinstance (ra_cons (re_var 1) (ra_cons (re_ty .tuple rfl (y.free 8) boot_tuple) (ra_nil)))))) (rw_or (rt_cmp (op_neD (Room.u64 hr)) neS (re_callB call_lenA lenAS rfl (y.free 0) boot_len (ra_cons (re_var 1) (ra_nil))) (re_gint rfl (y.int 48))) (rw_or1 (rt_not (rt_val (re_callO o_is_within hr (y.glo 43) tk (ra_cons (re_ixA hr (re_var 1) (re_int)) (ra_cons (re_int) (ra_cons (re_gint rfl (y.int 42)) (ra_nil))))))))))) (rss_one (rs_raise (c := 3) rfl tk (y.err 37) (y.glo 36))) (rss_nil)) (rss_one (rs_if (rt_w (rw_or (rt_not (rt_val (re_callO o_is_table hr (y.glo 32) tk (ra_cons (re_ixA hr (re_var 1) (re_int)) (ra_nil))))) (rw_or1 (rt_cmp (op_neD (Room.u64 hr)) neS (re_attr (slT_ok (exL_at y.x 5 rfl)) (re_ixA hr (re_var 1) (re_int))) (re_attr (slT_ok (exL_at y.x 5 rfl)) (re_ixA hr (re_ixA hr (re_var 0) (re_int)) (re_int))))))) (rss_one (rs_raise (c := 3) rfl tk (y.err 37) (y.glo 36))) (rss_nil))))))

theorem w_put_together (y : HyL K mg) (pg : PgOk P fileS) (o_require_pieces : OkF P w K mg (gx K) 5 (He.ga K "require_pieces") ["value"] m_require_pieces) (o_made_table : OkF P w K mg (gx K) 9 (He.ga K "made_table") ["lot", "rows"] m_made_table) : OkF P w K mg (gx K) 10 (He.ga K "put_together") ["pieces"] m_put_together := by
  obtain ⟨fd, F⟩ := y.c.def_ 35 (d := d_put_together) rfl
  refine ⟨fd, fun base => fn_ok F s_put_together rfl rfl fun cdv A outer s H E hr => ?_, F.bindsN fun _ _ _ _ _ _ us hl => match us, hl with | [_], _ => rfl, F.kp, F.bindsA fun _ _ _ _ _ _ us hl => match us, hl with | [_], _ => rfl⟩
  have tk : Takes (cxOf (L2.CX P w) P w K mg base ["pieces", "j", "piece", "row"] "put_together" (defScope (top 48)) (He.ga K "put_together") cdv A outer s H E) (WK E) := takes_of rfl rfl rfl rfl
  have nd := s_put_together.nd
  exact rss_cons (rs_expr (re_callO o_require_pieces hr (y.glo 64) tk (ra_cons (re_var 0) (ra_nil)))) (rss_one (rs_retV (re_callO o_made_table hr (y.glo 55) tk (ra_cons (re_attr (slT_ok (exL_at y.x 5 rfl)) (re_ixA hr (re_ixA hr (re_var 0) (re_int)) (re_int))) (ra_cons (re_lc2 (own := [("j", 1), ("piece", 2), ("row", 3)]) (vs1 := [3]) rfl nd (ri_any (re_var 0)) (blkOk_by (by kernel_rfl)) (by decide) (inis_tup (iniss_cons (inis_name 1) (iniss_cons (inis_name 2) (iniss_nil)))) (by decide) (inis_name 3) (by decide) (fun _ _ _ _ _ => rg_tup (n := 2) rfl (rgs_cons (rg_name 1 nd) (rgs_cons (rg_name 2 nd) (rgs_nil))) (consG_len (consG_len (nilG_len)))) (fun _ _ _ _ _ => rts_nil) (fun _ _ _ _ _ => ri_any (re_attr (slT_ok (exL_at y.x 4 rfl)) (re_var 2))) (fun _ _ _ _ _ => rg_name 3 nd) (fun _ _ _ _ _ => rts_nil) (fun _ _ _ _ _ => re_var 3)) (ra_nil))))))

theorem w_right (y : HyL K mg) (pg : PgOk P fileS) (o_Table_init : OkF P w K mg (gx K) 7 (He.fAd K ("Table", some "__init__")) ["self", "lot", "rows"] m_Table_init) (o_lt_turned : OkF P w K mg (gx K) 3 (He.ga K "_law_lt_turned") ["_law_items", "_law_turn"] m_lt_turned) (o_Table_rows : OkF P w K mg (gx K) 3 (pgA K ("Table", "rows")) ["self"] m_Table_rows) (o_groups_of : OkF P w K mg (gx K) 7 (He.ga K "groups_of") ["table", "low"] m_groups_of) (o_lm_right_13_1 : LamOk P w K mg (gx K) 8 6 13 1 m_lm_right_13_1) (o_parted : OkF P w K mg (gx K) 11 (He.ga K "parted") ["table", "low", "k"] m_parted) (o_level_of : OkF P w K mg (gx K) 6 (He.ga K "level_of") ["number"] m_level_of) (o_most_parts : OkF P w K mg (gx K) 6 (He.ga K "most_parts") ["k"] m_most_parts) (o_put_together : OkF P w K mg (gx K) 10 (He.ga K "put_together") ["pieces"] m_put_together) : OkG P w K mg (gx K) (TBs mg (csK K)) 15 (He.ga K "_law_right") ["_law_turn"] m_right := by
  obtain ⟨fd, F⟩ := y.c.def_ 36 (d := d_right) rfl
  obtain ⟨fm, F_met⟩ := y.c.def_ 38 (d := d_met) rfl
  have B_met : Binds K fm ["_law_call"] [] := F_met.bindsN fun _ _ _ _ _ _ us hl => match us, hl with | [_], _ => rfl
  have EX : ExmOk K (gx K) exm := exmBs_ok (exL_at y.x 13 rfl)
  refine ⟨fd, fun base tb => fnG_ok (p := ("_law_right", none)) F s_right rfl rfl fun A outer s H E hgd hr => ?_, F.bindsN fun _ _ _ _ _ _ us hl => match us, hl with | [_], _ => rfl, F.kp, F.bindsA fun _ _ _ _ _ _ us hl => match us, hl with | [_], _ => rfl⟩
  have tk : Takes (cxOf (L2.CX P w) P w K mg base ["_law_turn", "_law_table", "_law_none", "_law_low", "_law_far", "_law_k", "_law_number", "_law_some", "_law_pieces", "_law_told", "_law_due", "_law_call"] "_law_right" (defScope (top 54)) (He.fAd K ("_law_right", none)) (.ref (He.codeOf K ("_law_right", none))) A outer s H E) (WK E) := takes_of rfl rfl rfl rfl
  have nd := s_right.nd
  exact rss_cons (rs_set 1 nd (re_make (c := 0) o_Table_init (mkB_ok (exL_at y.x 8 rfl)) hr (y.glo 9) tk (ra_cons (re_ktup (ra_cons (re_int) (ra_cons (re_int) (ra_nil)))) (ra_cons (re_tup (ra_cons (re_tup (ra_cons (re_int) (ra_cons (re_int) (ra_nil)))) (ra_cons (re_tup (ra_cons (re_int) (ra_cons (re_int) (ra_nil)))) (ra_cons (re_tup (ra_cons (re_int) (ra_cons (re_int) (ra_nil)))) (ra_nil))))) (ra_nil))))) (rss_cons (rs_set 2 nd (re_callO o_lt_turned hr (y.glo 31) tk (ra_cons (re_lst (ra_cons (re_non) (ra_cons (re_int) (ra_cons (re_ktup (ra_nil)) (ra_cons (re_str) (ra_cons (re_dnil) (ra_cons (re_tup (ra_cons (re_ktup (ra_cons (re_int) (ra_cons (re_int) (ra_nil)))) (ra_cons (re_ktup (ra_nil)) (ra_nil)))) (ra_cons (re_lst (ra_cons (re_var 1) (ra_nil))) (ra_cons (re_bl) (ra_nil)))))))))) (ra_cons (re_var 0) (ra_nil))))) (rss_cons (rs_set 3 nd (re_callO o_lt_turned hr (y.glo 31) tk (ra_cons (re_lst (ra_cons (re_non) (ra_cons (re_tup (ra_cons (re_int) (ra_cons (re_int) (ra_nil)))) (ra_cons (re_tup (ra_cons (re_int) (ra_nil))) (ra_cons (re_tup (ra_cons (re_neg (re_int)) (ra_nil))) (ra_cons (re_lst (ra_cons (re_int) (ra_nil))) (ra_cons (re_tup (ra_cons (re_bl) (ra_nil))) (ra_cons (re_str) (ra_cons (re_tup (ra_cons (re_int) (ra_cons (re_int) (ra_nil)))) (ra_cons (re_int) (ra_cons (re_dnil) (ra_cons (re_tup (ra_cons (re_str) (ra_nil))) (ra_nil))))))))))))) (ra_cons (re_var 0) (ra_nil))))) (rss_cons (rs_set 4 nd (re_callO o_lt_turned hr (y.glo 31) tk (ra_cons (re_lst (ra_cons (re_ktup (ra_cons (re_int) (ra_nil))) (ra_cons (re_ktup (ra_cons (re_int) (ra_cons (re_int) (ra_nil)))) (ra_cons (re_tup (ra_cons (re_int) (ra_cons (re_int) (ra_cons (re_int) (ra_nil))))) (ra_cons (re_tup (ra_cons (re_int) (ra_nil))) (ra_cons (re_tup (ra_cons (re_int) (ra_cons (re_int) (ra_cons (re_int) (ra_nil))))) (ra_nil))))))) (ra_cons (re_var 0) (ra_nil))))) (rss_cons (rs_set 5 nd (re_callO o_lt_turned hr (y.glo 31) tk (ra_cons (re_lst (ra_cons (re_non) (ra_cons (re_neg (re_int)) (ra_cons (re_int) (ra_cons (re_bl) (ra_cons (re_str) (ra_cons (re_tup (ra_cons (re_int) (ra_nil))) (ra_cons (re_op op_powA powS (re_int) (re_int)) (ra_nil))))))))) (ra_cons (re_var 0) (ra_nil))))) (rss_cons (rs_set 6 nd (re_callO o_lt_turned hr (y.glo 31) tk (ra_cons (re_lst (ra_cons (re_non) (ra_cons (re_int) (ra_cons (re_neg (re_int)) (ra_cons (re_bl) (ra_cons (re_str) (ra_cons (re_ktup (ra_cons (re_int) (ra_nil))) (ra_cons (re_op op_powA powS (re_int) (re_int)) (ra_cons (re_op op_powA powS (re_int) (re_int)) (ra_nil)))))))))) (ra_cons (re_var 0) (ra_nil))))) (rss_cons (rs_set 7 nd (re_lst (ra_cons (re_non) (ra_cons (re_ktup (ra_nil)) (ra_cons (re_lst (ra_cons (re_tup (ra_cons (re_int) (ra_cons (re_var 1) (ra_nil)))) (ra_nil))) (ra_cons (re_op op_mulB mulAS (re_tup (ra_cons (re_tup (ra_cons (re_int) (ra_cons (re_var 1) (ra_nil)))) (ra_nil))) (re_int)) (ra_cons (re_tup (ra_cons (re_var 1) (ra_nil))) (ra_cons (re_tup (ra_cons (re_ktup (ra_cons (re_int) (ra_nil))) (ra_nil))) (ra_cons (re_tup (ra_cons (re_tup (ra_cons (re_neg (re_int)) (ra_cons (re_var 1) (ra_nil)))) (ra_nil))) (ra_cons (re_tup (ra_cons (re_tup (ra_cons (re_int) (ra_cons (re_var 1) (ra_nil)))) (ra_nil))) (ra_cons (re_tup (ra_cons (re_tup (ra_cons (re_bl) (ra_cons (re_var 1) (ra_nil)))) (ra_nil))) (ra_nil)))))))))))) (rss_cons (rs_set 7 nd (re_op op_addA addS (re_var 7) (re_lst (ra_cons (re_tup (ra_cons (re_tup (ra_cons (re_int) (ra_cons (re_prop (show PropT P w K mg (gx K) 3 "rows" [(0, m_Table_rows)] from propT_cons (c := 0) o_Table_rows (exL_at y.x 7 rfl) (exL_at y.x 9 rfl) (propT_nil)) hr (re_var 1)) (ra_nil)))) (ra_nil))) (ra_cons (re_tup (ra_cons (re_tup (ra_cons (re_int) (ra_cons (re_var 1) (ra_nil)))) (ra_cons (re_tup (ra_cons (re_int) (ra_cons (re_make (c := 0) o_Table_init (mkB_ok (exL_at y.x 8 rfl)) hr (y.glo 9) tk (ra_cons (re_ktup (ra_cons (re_int) (ra_nil))) (ra_cons (re_ktup (ra_nil)) (ra_nil)))) (ra_nil)))) (ra_nil)))) (ra_cons (re_tup (ra_cons (re_lst (ra_cons (re_int) (ra_cons (re_var 1) (ra_nil)))) (ra_nil))) (ra_cons (re_tup (ra_cons (re_tup (ra_cons (re_int) (ra_cons (re_var 1) (ra_cons (re_int) (ra_nil))))) (ra_nil))) (ra_cons (re_int) (ra_cons (re_dnil) (ra_cons (re_tup (ra_cons (re_str) (ra_nil))) (ra_nil))))))))))) (rss_cons (rs_set 8 nd (re_callO o_lt_turned hr (y.glo 31) tk (ra_cons (re_var 7) (ra_cons (re_var 0) (ra_nil))))) (rss_cons (rs_own 9 nd (ra_cons (re_gc (re_met EX (y.glo 41) F_met B_met s_met (by exact fun _ _ _ => h_met y hgd (u_met hr)) rfl (by exact fun _ _ _ => fd_txt) (fun _ => rfl) rfl (Or.inl rfl) (tb (He.cT K ("_law_right", none)) (by simp [csK, tf])) rfl (by kernel_rfl) hr (LamX.lamS_by (by kernel_rfl)) rfl (fun _ _ _ _ _ => rfl) (by exact fun A outer s H E f c2 hr => re_callO o_groups_of hr (y.glo 40) (takes_of rfl rfl rfl rfl) (ra_cons (re_var 2) (ra_cons (re_var 3) (ra_nil)))))) (ra_nil))) (rss_cons (rs_app 9 (ra_cons (re_gc (re_met EX (y.glo 41) F_met B_met s_met (by exact fun _ _ _ => h_met y hgd (u_met hr)) rfl (by exact fun _ _ _ => fd_txt) (fun _ => rfl) rfl (Or.inl rfl) (tb (He.cT K ("_law_right", none)) (by simp [csK, tf])) rfl (by kernel_rfl) hr (LamX.lamS_by (by kernel_rfl)) rfl (fun _ _ _ _ _ => rfl) (by exact fun A outer s H E f c2 hr => re_callO o_groups_of hr (y.glo 40) (takes_of rfl rfl rfl rfl) (ra_cons (re_var 1) (ra_cons (re_var 3) (ra_nil)))))) (ra_nil))) (rss_cons (rs_app 9 (ra_cons (re_gc (re_met EX (y.glo 41) F_met B_met s_met (by exact fun _ _ _ => h_met y hgd (u_met hr)) rfl (by exact fun _ _ _ => fd_txt) (fun _ => rfl) rfl (Or.inl rfl) (tb (He.cT K ("_law_right", none)) (by simp [csK, tf])) rfl (by kernel_rfl) hr (LamX.lamS_by (by kernel_rfl)) rfl (fun _ _ _ _ _ => rfl) (by exact fun A outer s H E f c2 hr => re_callO o_groups_of hr (y.glo 40) (takes_of rfl rfl rfl rfl) (ra_cons (re_var 1) (ra_cons (re_var 4) (ra_nil)))))) (ra_nil))) (rss_cons (rs_set 10 nd (re_lst (ra_cons (re_str) (ra_cons (re_str) (ra_cons (re_str) (ra_nil)))))) (rss_cons (rs_for (passes_of rfl) rfl (ri_any (re_tup (ra_cons (re_adr rfl (y.glo 53)) (ra_cons (re_lamV (tb (He.cT K ("_law_right", none)) (by simp [csK, tf])) rfl (by kernel_rfl) rfl (lamK_of F (by kernel_rfl)) s_lm_right_13_1.nofree) (ra_nil))))) (rg_name 11 nd) (rss_cons (rs_app 9 (ra_cons (re_gc (re_met EX (y.glo 41) F_met B_met s_met (by exact fun _ _ _ => h_met y hgd (u_met hr)) rfl (by exact fun _ _ _ => fd_txt) (fun _ => rfl) rfl (Or.inl rfl) (tb (He.cT K ("_law_right", none)) (by simp [csK, tf])) rfl (by kernel_rfl) hr (LamX.lamS_by (by kernel_rfl)) rfl (fun _ _ _ _ _ => rfl) (by exact fun A outer s H E f c2 hr => re_callVL (show TabV P w K mg (gx K) 11 [(7, m_parted)] from tabV_cons o_parted (tabV_nil)) (show TabL P w K mg (gx K) 11 [(6, 13, 1, m_lm_right_13_1)] from tabL_cons o_lm_right_13_1 (tabL_nil)) hr (takes_of rfl rfl rfl rfl) 11 (ra_cons (re_var 2) (ra_cons (re_var 3) (ra_cons (re_var 5) (ra_nil))))))) (ra_nil))) (rss_cons (rs_app 9 (ra_cons (re_gc (re_met EX (y.glo 41) F_met B_met s_met (by exact fun _ _ _ => h_met y hgd (u_met hr)) rfl (by exact fun _ _ _ => fd_txt) (fun _ => rfl) rfl (Or.inl rfl) (tb (He.cT K ("_law_right", none)) (by simp [csK, tf])) rfl (by kernel_rfl) hr (LamX.lamS_by (by kernel_rfl)) rfl (fun _ _ _ _ _ => rfl) (by exact fun A outer s H E f c2 hr => re_callVL (show TabV P w K mg (gx K) 11 [(7, m_parted)] from tabV_cons o_parted (tabV_nil)) (show TabL P w K mg (gx K) 11 [(6, 13, 1, m_lm_right_13_1)] from tabL_cons o_lm_right_13_1 (tabL_nil)) hr (takes_of rfl rfl rfl rfl) 11 (ra_cons (re_var 1) (ra_cons (re_var 3) (ra_cons (re_var 5) (ra_nil))))))) (ra_nil))) (rss_cons (rs_app 9 (ra_cons (re_gc (re_met EX (y.glo 41) F_met B_met s_met (by exact fun _ _ _ => h_met y hgd (u_met hr)) rfl (by exact fun _ _ _ => fd_txt) (fun _ => rfl) rfl (Or.inl rfl) (tb (He.cT K ("_law_right", none)) (by simp [csK, tf])) rfl (by kernel_rfl) hr (LamX.lamS_by (by kernel_rfl)) rfl (fun _ _ _ _ _ => rfl) (by exact fun A outer s H E f c2 hr => re_callVL (show TabV P w K mg (gx K) 11 [(7, m_parted)] from tabV_cons o_parted (tabV_nil)) (show TabL P w K mg (gx K) 11 [(6, 13, 1, m_lm_right_13_1)] from tabL_cons o_lm_right_13_1 (tabL_nil)) hr (takes_of rfl rfl rfl rfl) 11 (ra_cons (re_var 1) (ra_cons (re_var 4) (ra_cons (re_var 5) (ra_nil))))))) (ra_nil))) (rss_cons (rs_app 9 (ra_cons (re_gc (re_met EX (y.glo 41) F_met B_met s_met (by exact fun _ _ _ => h_met y hgd (u_met hr)) rfl (by exact fun _ _ _ => fd_txt) (fun _ => rfl) rfl (Or.inl rfl) (tb (He.cT K ("_law_right", none)) (by simp [csK, tf])) rfl (by kernel_rfl) hr (LamX.lamS_by (by kernel_rfl)) rfl (fun _ _ _ _ _ => rfl) (by exact fun A outer s H E f c2 hr => re_callVL (show TabV P w K mg (gx K) 11 [(7, m_parted)] from tabV_cons o_parted (tabV_nil)) (show TabL P w K mg (gx K) 11 [(6, 13, 1, m_lm_right_13_1)] from tabL_cons o_lm_right_13_1 (tabL_nil)) hr (takes_of rfl rfl rfl rfl) 11 (ra_cons (re_var 1) (ra_cons (re_var 4) (ra_cons (re_int) (ra_nil))))))) (ra_nil))) (rss_cons (rs_app 9 (ra_cons (re_gc (re_met EX (y.glo 41) F_met B_met s_met (by exact fun _ _ _ => h_met y hgd (u_met hr)) rfl (by exact fun _ _ _ => fd_txt) (fun _ => rfl) rfl (Or.inl rfl) (tb (He.cT K ("_law_right", none)) (by simp [csK, tf])) rfl (by kernel_rfl) hr (LamX.lamS_by (by kernel_rfl)) rfl (fun _ _ _ _ _ => rfl) (by exact fun A outer s H E f c2 hr => re_callVL (show TabV P w K mg (gx K) 11 [(7, m_parted)] from tabV_cons o_parted (tabV_nil)) (show TabL P w K mg (gx K) 11 [(6, 13, 1, m_lm_right_13_1)] from tabL_cons o_lm_right_13_1 (tabL_nil)) hr (takes_of rfl rfl rfl rfl) 11 (ra_cons (re_var 1) (ra_cons (re_ktup (ra_cons (re_int) (ra_nil))) (ra_cons (re_int) (ra_nil))))))) (ra_nil))) (rss_cons (rs_app 9 (ra_cons (re_gc (re_met EX (y.glo 41) F_met B_met s_met (by exact fun _ _ _ => h_met y hgd (u_met hr)) rfl (by exact fun _ _ _ => fd_txt) (fun _ => rfl) rfl (Or.inl rfl) (tb (He.cT K ("_law_right", none)) (by simp [csK, tf])) rfl (by kernel_rfl) hr (LamX.lamS_by (by kernel_rfl)) rfl (fun _ _ _ _ _ => rfl) (by exact fun A outer s H E f c2 hr => re_callVL (show TabV P w K mg (gx K) 11 [(7, m_parted)] from tabV_cons o_parted (tabV_nil)) (show TabL P w K mg (gx K) 11 [(6, 13, 1, m_lm_right_13_1)] from tabL_cons o_lm_right_13_1 (tabL_nil)) hr (takes_of rfl rfl rfl rfl) 11 (ra_cons (re_var 1) (ra_cons (re_ktup (ra_cons (re_int) (ra_nil))) (ra_cons (re_int) (ra_nil))))))) (ra_nil))) (rss_cons (rs_app 9 (ra_cons (re_gc (re_met EX (y.glo 41) F_met B_met s_met (by exact fun _ _ _ => h_met y hgd (u_met hr)) rfl (by exact fun _ _ _ => fd_txt) (fun _ => rfl) rfl (Or.inl rfl) (tb (He.cT K ("_law_right", none)) (by simp [csK, tf])) rfl (by kernel_rfl) hr (LamX.lamS_by (by kernel_rfl)) rfl (fun _ _ _ _ _ => rfl) (by exact fun A outer s H E f c2 hr => re_callVL (show TabV P w K mg (gx K) 11 [(7, m_parted)] from tabV_cons o_parted (tabV_nil)) (show TabL P w K mg (gx K) 11 [(6, 13, 1, m_lm_right_13_1)] from tabL_cons o_lm_right_13_1 (tabL_nil)) hr (takes_of rfl rfl rfl rfl) 11 (ra_cons (re_var 1) (ra_cons (re_ktup (ra_nil)) (ra_cons (re_int) (ra_nil))))))) (ra_nil))) (rss_one (rs_set 10 nd (re_op op_addA addS (re_var 10) (re_lst (ra_cons (re_str) (ra_cons (re_str) (ra_cons (re_op op_addA addS (re_str) (re_repr hgd (Room.u64 hr) (y.free 57) (ra_cons (re_var 5) (ra_nil)))) (ra_cons (re_str) (ra_cons (re_str) (ra_cons (re_str) (ra_cons (re_str) (ra_nil)))))))))))))))))))) (rss_cons (rs_app 9 (ra_cons (re_gc (re_met EX (y.glo 41) F_met B_met s_met (by exact fun _ _ _ => h_met y hgd (u_met hr)) rfl (by exact fun _ _ _ => fd_txt) (fun _ => rfl) rfl (Or.inl rfl) (tb (He.cT K ("_law_right", none)) (by simp [csK, tf])) rfl (by kernel_rfl) hr (LamX.lamS_by (by kernel_rfl)) rfl (fun _ _ _ _ _ => rfl) (by exact fun A outer s H E f c2 hr => re_callO o_level_of hr (y.glo 61) (takes_of rfl rfl rfl rfl) (ra_cons (re_var 6) (ra_nil))))) (ra_nil))) (rss_cons (rs_app 9 (ra_cons (re_gc (re_met EX (y.glo 41) F_met B_met s_met (by exact fun _ _ _ => h_met y hgd (u_met hr)) rfl (by exact fun _ _ _ => fd_txt) (fun _ => rfl) rfl (Or.inl rfl) (tb (He.cT K ("_law_right", none)) (by simp [csK, tf])) rfl (by kernel_rfl) hr (LamX.lamS_by (by kernel_rfl)) rfl (fun _ _ _ _ _ => rfl) (by exact fun A outer s H E f c2 hr => re_callO o_most_parts hr (y.glo 62) (takes_of rfl rfl rfl rfl) (ra_cons (re_var 5) (ra_nil))))) (ra_nil))) (rss_cons (rs_app 9 (ra_cons (re_gc (re_met EX (y.glo 41) F_met B_met s_met (by exact fun _ _ _ => h_met y hgd (u_met hr)) rfl (by exact fun _ _ _ => fd_txt) (fun _ => rfl) rfl (Or.inl rfl) (tb (He.cT K ("_law_right", none)) (by simp [csK, tf])) rfl (by kernel_rfl) hr (LamX.lamS_by (by kernel_rfl)) rfl (fun _ _ _ _ _ => rfl) (by exact fun A outer s H E f c2 hr => re_callO o_put_together hr (y.glo 65) (takes_of rfl rfl rfl rfl) (ra_cons (re_var 8) (ra_nil))))) (ra_nil))) (rss_cons (rs_app 9 (ra_cons (re_gc (re_met EX (y.glo 41) F_met B_met s_met (by exact fun _ _ _ => h_met y hgd (u_met hr)) rfl (by exact fun _ _ _ => fd_txt) (fun _ => rfl) rfl (Or.inl rfl) (tb (He.cT K ("_law_right", none)) (by simp [csK, tf])) rfl (by kernel_rfl) hr (LamX.lamS_by (by kernel_rfl)) rfl (fun _ _ _ _ _ => rfl) (by exact fun A outer s H E f c2 hr => re_callO o_put_together hr (y.glo 65) (takes_of rfl rfl rfl rfl) (ra_cons (re_op op_mulB mulAS (re_tup (ra_cons (re_tup (ra_cons (re_int) (ra_cons (re_var 1) (ra_nil)))) (ra_nil))) (re_int)) (ra_nil))))) (ra_nil))) (rss_one (rs_retF (re_cmp (op_eqD (Room.u64 hr)) eqS (re_var 9) (re_op op_addA addS (re_var 10) (re_lst (ra_cons (re_op op_addA addS (re_str) (re_repr hgd (Room.u64 hr) (y.free 57) (ra_cons (re_var 6) (ra_nil)))) (ra_cons (re_op op_addA addS (re_str) (re_repr hgd (Room.u64 hr) (y.free 57) (ra_cons (re_var 5) (ra_nil)))) (ra_cons (re_str) (ra_cons (re_str) (ra_nil)))))))))))))))))))))))))))

theorem w_law (y : HyL K mg) (pg : PgOk P fileS) (o_cup : OkF P w K mg (gx K) 3 (He.ga K "_law_cup") ["_law_script", "_law_spot"] m_cup) (o_tossed : OkF P w K mg (gx K) 3 (He.ga K "_law_tossed") ["_law_cup_here", "_law_total"] m_tossed) (o_right : OkG P w K mg (gx K) (TBs mg (csK K)) 15 (He.ga K "_law_right") ["_law_turn"] m_right) (o_level_of : OkF P w K mg (gx K) 6 (He.ga K "level_of") ["number"] m_level_of) (o_most_parts : OkF P w K mg (gx K) 6 (He.ga K "most_parts") ["k"] m_most_parts) : OkG P w K mg (gx K) (TBs mg (csK K)) 16 (He.ga K "law") ["_law_script"] m_law := by
  obtain ⟨fd, F⟩ := y.c.def_ 37 (d := d_law) rfl
  refine ⟨fd, fun base tb => fnG_ok (p := ("law", none)) F s_law rfl rfl fun A outer s H E hgd hr => ?_, F.bindsN fun _ _ _ _ _ _ us hl => match us, hl with | [_], _ => rfl, F.kp, F.bindsA fun _ _ _ _ _ _ us hl => match us, hl with | [_], _ => rfl⟩
  have tk : Takes (cxOf (L2.CX P w) P w K mg base ["_law_script", "_law_spot", "_law_shift", "_law_turn"] "law" (defScope (top 55)) (He.fAd K ("law", none)) (.ref (He.codeOf K ("law", none))) A outer s H E) (WK E) := takes_of rfl rfl rfl rfl
  have nd := s_law.nd
  exact rss_cons (rs_for (passes_of rfl) rfl (ri_range rfl (y.free 3) (ra_cons (re_callB (call_max2 rfl) int2S rfl (y.free 2) boot_max (ra_cons (re_int) (ra_cons (re_callB (call_min2 rfl) int2S rfl (y.free 1) boot_min (ra_cons (re_int) (ra_cons (re_callB call_lenA lenAS rfl (y.free 0) boot_len (ra_cons (re_var 0) (ra_nil))) (ra_nil)))) (ra_nil)))) (ra_nil))) (rg_name 1 nd) (rss_cons (rs_set 2 nd (re_gc (re_callO o_tossed hr (y.glo 7) tk (ra_cons (re_callO o_cup hr (y.glo 6) tk (ra_cons (re_var 0) (ra_cons (re_var 1) (ra_nil)))) (ra_cons (re_int) (ra_nil)))))) (rss_one (rs_for (passes_of rfl) rfl (ri_range rfl (y.free 3) (ra_cons (re_int) (ra_nil))) (rg_name 3 nd) (rss_one (rs_if (rt_not (rt_val (re_gc (re_callG o_right tb hgd hr (y.glo 66) tk (ra_cons (re_op op_addA addS (re_var 2) (re_var 3)) (ra_nil)))))) (rss_one (rs_retV (re_bl))) (rss_nil))))))) (rss_one (rs_retV (re_cmp (op_eqD (Room.u64 hr)) eqS (re_lst (ra_cons (re_callO o_most_parts hr (y.glo 62) tk (ra_cons (re_int) (ra_nil))) (ra_cons (re_callO o_most_parts hr (y.glo 62) tk (ra_cons (re_int) (ra_nil))) (ra_cons (re_callO o_level_of hr (y.glo 61) tk (ra_cons (re_op op_subA subS (re_op op_powA powS (re_int) (re_int)) (re_int)) (ra_nil))) (ra_nil))))) (re_lst (ra_cons (re_int) (ra_cons (re_int) (ra_cons (re_int) (ra_nil))))))))

theorem w_all (y : HyL K mg) (pg : PgOk P fileS) : OkG P w K mg (gx K) (TBs mg (csK K)) 16 (He.ga K "law") ["_law_script"] m_law := by
  have o_cup := w_cup (P := P) (w := w) y pg 
  have o_tossed := w_tossed (P := P) (w := w) y pg 
  have o_is_letter := w_is_letter (P := P) (w := w) y pg 
  have o_is_lot := w_is_lot (P := P) (w := w) y pg o_is_letter
  have o_require_lot := w_require_lot (P := P) (w := w) y pg o_is_lot
  have o_is_whole := w_is_whole (P := P) (w := w) y pg 
  have o_is_small := w_is_small (P := P) (w := w) y pg o_is_whole
  have o_is_row_in := w_is_row_in (P := P) (w := w) y pg o_is_small
  have o_are_rows := w_are_rows (P := P) (w := w) y pg o_is_row_in
  have o_lot_told := w_lot_told (P := P) (w := w) y pg 
  have o_Table_keep := w_Table_keep (P := P) (w := w) y pg o_lot_told
  have o_Table_init := w_Table_init (P := P) (w := w) y pg o_require_lot o_are_rows o_Table_keep
  have o_lt_turned := w_lt_turned (P := P) (w := w) y pg 
  have o_Table_rows := w_Table_rows (P := P) (w := w) y pg 
  have o_is_table := w_is_table (P := P) (w := w) y pg 
  have o_require_table := w_require_table (P := P) (w := w) y pg o_is_table
  have o_require_cut := w_require_cut (P := P) (w := w) y pg o_require_table o_require_lot
  have o_within_in := w_within_in (P := P) (w := w) y pg 
  have o_need_within := w_need_within (P := P) (w := w) y pg o_within_in
  have o_groups_in := w_groups_in (P := P) (w := w) y pg 
  have o_groups_of := w_groups_of (P := P) (w := w) y pg o_require_cut o_need_within o_groups_in
  have o_is_within := w_is_within (P := P) (w := w) y pg o_is_whole
  have o_require_within := w_require_within (P := P) (w := w) y pg o_is_within
  have o_require_cut_and_power := w_require_cut_and_power (P := P) (w := w) y pg o_require_cut o_require_within o_need_within
  have o_does_fit := w_does_fit (P := P) (w := w) y pg o_groups_in
  have o_is_piece := w_is_piece (P := P) (w := w) y pg o_is_within o_is_table o_does_fit
  have o_is_parted := w_is_parted (P := P) (w := w) y pg o_require_cut_and_power o_is_piece
  have o_lm_right_13_1 := w_lm_right_13_1 (P := P) (w := w) y pg o_is_parted
  have o_power_in := w_power_in (P := P) (w := w) y pg 
  have o_made_table := w_made_table (P := P) (w := w) y pg o_Table_init o_Table_keep
  have o_parted_in := w_parted_in (P := P) (w := w) y pg o_groups_in o_power_in o_made_table
  have o_parted := w_parted (P := P) (w := w) y pg o_require_cut_and_power o_parted_in
  have o_is_integer := w_is_integer (P := P) (w := w) y pg o_is_whole
  have o_require_from_one := w_require_from_one (P := P) (w := w) y pg o_is_integer
  have o_level_of := w_level_of (P := P) (w := w) y pg o_require_from_one o_power_in
  have o_most_parts := w_most_parts (P := P) (w := w) y pg o_require_within
  have o_require_pieces := w_require_pieces (P := P) (w := w) y pg o_is_within o_is_table
  have o_put_together := w_put_together (P := P) (w := w) y pg o_require_pieces o_made_table
  have o_right := w_right (P := P) (w := w) y pg o_Table_init o_lt_turned o_Table_rows o_groups_of o_lm_right_13_1 o_parted o_level_of o_most_parts o_put_together
  have o_law := w_law (P := P) (w := w) y pg o_cup o_tossed o_right o_level_of o_most_parts
  exact o_law
end
end K45
set_option Elab.async false
set_option linter.all false
set_option maxRecDepth 100000
set_option pp.maxSteps 120
set_option pp.deepTerms false
namespace K45
open PySem PySem.Spec PyProof.Rows L2 Mv
set_option maxHeartbeats 0
def lo0 : List Str := ["CrestError", "InvalidLot", "InvalidTable", "InvalidOperation", "InvalidNumber", "LETTERS", "is_letter", "is_lot", "within_in", "require_lot", "BILLION", "is_whole", "is_integer", "is_within", "power_in", "require_from_one", "require_within", "MOST_ROWS", "BOUND", "is_small", "is_row_in", "are_rows", "Table", "lot_told", "made_table", "is_table", "require_table", "MOST_POWER", "MOST_PIECES", "PAIR"]
def lo1 : List Str := ["groups_in", "parted_in", "does_fit", "is_piece", "require_cut", "need_within", "require_cut_and_power", "require_pieces", "level_of", "groups_of", "parted", "is_parted", "most_parts", "put_together", "_law_cup", "_law_tossed", "_law_lt_turned", "_law_met", "_law_right"]
def lo : List Str := lo0 ++ lo1
abbrev R : PySem.W.OpenRow := PySem.W.OpenLaw.row PySem.Challenge.rw_crestjoin_k45_errors_of_pieces
abbrev hk : PySem.W.Hook := Mv.hookP 5 fa fn tf ex pn
def ob (s : PySem.W.SharedT) : He.AlX × AlP := Mv.obsP 5 fa fn tf ex pn (HandSHeadRun.getT s)
theorem ob_eq (s : PySem.W.SharedT) : ob s = hk.obs s.abs := Mv.obsP_eq (HandSHeadRun.getT_eq s)
abbrev qv : Program := PySem.W.view R.prog [55]
theorem run (w : World) : HandSHeadRun.RunEq R qv hk ob 6000 lo w := by
  intro os
  kernel_rfl
end K45
set_option Elab.async false
set_option linter.all false
set_option maxRecDepth 100000
set_option pp.maxSteps 120
set_option pp.deepTerms false
namespace K45
open PySem PySem.Spec PyProof.Rows L2 Mv
end K45
open PySem PySem.W PySem.Calls PyProof.Rows
set_option maxHeartbeats 0
theorem PySem.Challenge.cw_crestjoin_k45_errors_of_pieces_holds : PySem.Challenge.rw_crestjoin_k45_errors_of_pieces.Holds := by
  w_on; o_law
  refine HandSHeadRun.head_any (r := OpenLaw.row PySem.Challenge.rw_crestjoin_k45_errors_of_pieces) (q := K45.qv) (H := K45.hk) (ob := K45.ob) (M := 6000) (loose := K45.lo) (d := HandSHeadRun.topDef (OpenLaw.row PySem.Challenge.rw_crestjoin_k45_errors_of_pieces).prog 55) (kwd := []) K45.ob_eq (by kernel_rfl) (fun s => by kernel_rfl) K45.run (by kernel_rfl) (by kernel_rfl) (by kernel_rfl) (by rfl) (by first | assumption | decide +kernel) (by decide +kernel) ⟨rfl, rfl, rfl, rfl, rfl, by decide +kernel⟩ ?hw ?hc
  case hw => w_witness2
  case hc =>
    refine Mv.walk_mvT (l := PySem.Challenge.rw_crestjoin_k45_errors_of_pieces) (n := 63) (k := 16) (x := "_law_script") (mf := K45.m_law) (ts := K45.tsL) rfl (by decide) (by kernel_rfl) ⟨rfl, by decide, by decide⟩ (fun w mg f h Y G e => ?_) K45.law_true
    obtain ⟨K, KX, c, cp⟩ := Y
    have en : (HandSHeadRun.topDef (OpenLaw.row PySem.Challenge.rw_crestjoin_k45_errors_of_pieces).prog 55).name = ("law" : PySem.Str) := by kernel_rfl
    rw [en] at e
    have y : K45.HyL K mg := ⟨⟨c.t.d, c.more, h, KX, G⟩, cp⟩
    have e2 := e.symm.trans (y.glo 67)
    cases e2
    refine ⟨K, K45.gx K, K45.csK K, KX, fun p hp => ?_, fun p hp => ?_, fun p hp => ?_, rfl, of_decide_eq_true (Mv.exL_at y.x 14 rfl), K45.w_all y ⟨by decide +kernel, by decide +kernel⟩⟩
    · obtain ⟨t, ht, rfl⟩ := List.mem_map.mp hp
      exact c.empty t ht
    · obtain ⟨t, ht, rfl⟩ := List.mem_map.mp hp
      exact c.out t ht
    · obtain ⟨t, ht, rfl⟩ := List.mem_map.mp hp
      exact PySem.W.codeHd_of_K KX (c.hd t ht)
